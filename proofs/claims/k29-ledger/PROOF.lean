import PyProof.Rows.All
import Wide.All
import OpenK.AllK
import Wide.FinOn
import HandS.ForMost
import HandS.Exc
import HandS.TryMany
import HandS.WordsExc
import HandS.IsInst
import HandS.Flow
import HandS.Wide
import HandS.Style
import HandS.TupAny
import HandS.Replace
import HandS.SetFor
import HandS.Walk
import HandS.Comp
import HandS.ExcCtx
import HandS.ExcInit
import KE.KExcSuper
import KE.KSuper
import HandS.ExcField
import HandS.ExcOwn
import HandS.ExcBuiltin
import HandS.ExcIs
import HandS.HotCalls
import HandS.Text
import PySem.Challenge.RW_beadmoot_k29_ledger
set_option Elab.async false
set_option linter.all false
set_option maxRecDepth 100000
set_option maxHeartbeats 1000000
/-! Sim 1: values as trees, the store of objects, the relation to HandS's heap, the judgements. -/
namespace Sm
open PySem PySem.Spec PyProof.Rows L2

inductive D where
  | non | bl (b : Bool) | int (i : Int) | str (x : Str)
  | lst (xs : List D) | tup (xs : List D)
  | dK (kvs : List (Key × D)) | dT (kvs : List (List Key × D))
  | ref (i : Nat)
  | obj (c : Nat) (fs : List (Option D))

/-- an exception: its class, its fields -/
structure Exc where
  c : Nat
  fs : List D
/-- the caught exception of a suite: its name's slot, its address, its class, its dict, what it is -/
structure Cau where
  i : Nat
  a : Addr
  cls : Value
  dx : Option Addr
  x : Exc
/-- the classes: their addresses, their attributes' names, which attributes hold a list of their own -/
structure Cfg where
  ca : Nat → Addr
  fl : Nat → List Str
  ow : Nat → Nat → Bool
  xl : Nat → List Str
  cau : Option Cau

structure Ob where
  c : Nat
  fs : List (Option D)
abbrev Sto := List Ob

mutual
inductive Rep (K : PySem.W.Frag) (C : Cfg) (G : Hp) (ρ : List Addr) : D → V → Prop
  | non : Rep K C G ρ .non .non
  | bl (b : Bool) : Rep K C G ρ (.bl b) (.bl b)
  | int (i : Int) : Rep K C G ρ (.int i) (.int i)
  | str (x : Str) : Rep K C G ρ (.str x) (.str x)
  | lst {a : Addr} {vs : List V} {ds : List D} : SqL K G a vs → Reps K C G ρ ds vs → Rep K C G ρ (.lst ds) (.ref a)
  | tup {a : Addr} {vs : List V} {ds : List D} : SqT K G a vs → Reps K C G ρ ds vs → Rep K C G ρ (.tup ds) (.ref a)
  | dK {a : Addr} {ks : List (Key × V)} {ds : List (Key × D)} : G a = some (.dK ks) → RepK K C G ρ ds ks → Rep K C G ρ (.dK ds) (.ref a)
  | dT {a : Addr} {ks : List (List Key × V)} {ds : List (List Key × D)} : G a = some (.dT ks) → RepT K C G ρ ds ks → Rep K C G ρ (.dT ds) (.ref a)
  | ref {i : Nat} {a : Addr} : ρ[i]? = some a → Rep K C G ρ (.ref i) (.ref a)
  | obj {c : Nat} {a dx : Addr} {fs : List (Str × V)} {ds : List (Option D)} : G a = some (.ins (C.ca c) dx fs) → RepF K C G ρ (C.fl c) ds fs →
      (∀ m, m ∉ C.fl c → fs.lookup m = none) → Rep K C G ρ (.obj c ds) (.ref a)
inductive Reps (K : PySem.W.Frag) (C : Cfg) (G : Hp) (ρ : List Addr) : List D → List V → Prop
  | nil : Reps K C G ρ [] []
  | cons {d : D} {v : V} {ds : List D} {vs : List V} : Rep K C G ρ d v → Reps K C G ρ ds vs → Reps K C G ρ (d :: ds) (v :: vs)
inductive RepK (K : PySem.W.Frag) (C : Cfg) (G : Hp) (ρ : List Addr) : List (Key × D) → List (Key × V) → Prop
  | nil : RepK K C G ρ [] []
  | cons {k : Key} {d : D} {v : V} {ds : List (Key × D)} {vs : List (Key × V)} : Rep K C G ρ d v → RepK K C G ρ ds vs → RepK K C G ρ ((k, d) :: ds) ((k, v) :: vs)
inductive RepT (K : PySem.W.Frag) (C : Cfg) (G : Hp) (ρ : List Addr) : List (List Key × D) → List (List Key × V) → Prop
  | nil : RepT K C G ρ [] []
  | cons {k : List Key} {d : D} {v : V} {ds : List (List Key × D)} {vs : List (List Key × V)} : Rep K C G ρ d v → RepT K C G ρ ds vs → RepT K C G ρ ((k, d) :: ds) ((k, v) :: vs)
inductive RepF (K : PySem.W.Frag) (C : Cfg) (G : Hp) (ρ : List Addr) : List Str → List (Option D) → List (Str × V) → Prop
  | nil {fs : List (Str × V)} : RepF K C G ρ [] [] fs
  | none {n : Str} {ns : List Str} {ds : List (Option D)} {fs : List (Str × V)} : fs.lookup n = none → RepF K C G ρ ns ds fs → RepF K C G ρ (n :: ns) (none :: ds) fs
  | some {n : Str} {ns : List Str} {d : D} {v : V} {ds : List (Option D)} {fs : List (Str × V)} : fs.lookup n = some v → Rep K C G ρ d v → RepF K C G ρ ns ds fs → RepF K C G ρ (n :: ns) (some d :: ds) fs
end

theorem sqL_mono {K : PySem.W.Frag} {G G' : Hp} {a : Addr} {vs : List V} (e : Same G G') (h : SqL K G a vs) : SqL K G' a vs := e.seq h
theorem sqT_mono {K : PySem.W.Frag} {G G' : Hp} {a : Addr} {vs : List V} (e : Same G G') (h : SqT K G a vs) : SqT K G' a vs := by
  rcases h with (h | ⟨o, h⟩) | h
  · exact .inl (.inl (e _ _ h))
  · exact .inl (.inr ⟨o, e _ _ h⟩)
  · exact .inr h

section
variable {K : PySem.W.Frag} {C : Cfg} {G G' : Hp} {ρ ρ' : List Addr}
mutual
theorem Rep.mono (hG : Same G G') (hρ : ∀ (i : Nat) (a : Addr), ρ[i]? = some a → ρ'[i]? = some a) : ∀ {d : D} {v : V}, Rep K C G ρ d v → Rep K C G' ρ' d v
  | _, _, .non => .non
  | _, _, .bl b => .bl b
  | _, _, .int i => .int i
  | _, _, .str x => .str x
  | _, _, .lst h r => .lst (sqL_mono hG h) (Reps.mono hG hρ r)
  | _, _, .tup h r => .tup (sqT_mono hG h) (Reps.mono hG hρ r)
  | _, _, .dK h r => .dK (hG _ _ h) (RepK.mono hG hρ r)
  | _, _, .dT h r => .dT (hG _ _ h) (RepT.mono hG hρ r)
  | _, _, .ref h => .ref (hρ _ _ h)
  | _, _, .obj h r q => .obj (hG _ _ h) (RepF.mono hG hρ r) q
theorem Reps.mono (hG : Same G G') (hρ : ∀ (i : Nat) (a : Addr), ρ[i]? = some a → ρ'[i]? = some a) : ∀ {ds : List D} {vs : List V}, Reps K C G ρ ds vs → Reps K C G' ρ' ds vs
  | _, _, .nil => .nil
  | _, _, .cons h r => .cons (Rep.mono hG hρ h) (Reps.mono hG hρ r)
theorem RepK.mono (hG : Same G G') (hρ : ∀ (i : Nat) (a : Addr), ρ[i]? = some a → ρ'[i]? = some a) : ∀ {ds : List (Key × D)} {vs : List (Key × V)}, RepK K C G ρ ds vs → RepK K C G' ρ' ds vs
  | _, _, .nil => .nil
  | _, _, .cons h r => .cons (Rep.mono hG hρ h) (RepK.mono hG hρ r)
theorem RepT.mono (hG : Same G G') (hρ : ∀ (i : Nat) (a : Addr), ρ[i]? = some a → ρ'[i]? = some a) : ∀ {ds : List (List Key × D)} {vs : List (List Key × V)}, RepT K C G ρ ds vs → RepT K C G' ρ' ds vs
  | _, _, .nil => .nil
  | _, _, .cons h r => .cons (Rep.mono hG hρ h) (RepT.mono hG hρ r)
theorem RepF.mono (hG : Same G G') (hρ : ∀ (i : Nat) (a : Addr), ρ[i]? = some a → ρ'[i]? = some a) : ∀ {ns : List Str} {ds : List (Option D)} {fs : List (Str × V)}, RepF K C G ρ ns ds fs → RepF K C G' ρ' ns ds fs
  | _, _, _, .nil => .nil
  | _, _, _, .none e r => .none e (RepF.mono hG hρ r)
  | _, _, _, .some e h r => .some e (Rep.mono hG hρ h) (RepF.mono hG hρ r)
end
theorem Reps.length : ∀ {ds : List D} {vs : List V}, Reps K C G ρ ds vs → ds.length = vs.length
  | _, _, .nil => rfl
  | _, _, .cons _ r => by rw [List.length_cons, List.length_cons, Reps.length r]
theorem Reps.get : ∀ {ds : List D} {vs : List V} {i : Nat} {d : D}, Reps K C G ρ ds vs → ds[i]? = some d → ∃ v, vs[i]? = some v ∧ Rep K C G ρ d v
  | _, _, _, _, .nil, e => by simp at e
  | _, _, 0, _, .cons h _, e => by simp at e; subst e; exact ⟨_, rfl, h⟩
  | _, _, i + 1, _, .cons _ r, e => by
    obtain ⟨v, h1, h2⟩ := Reps.get (i := i) r (by simpa using e)
    exact ⟨v, by simpa using h1, h2⟩
theorem Reps.get' : ∀ {ds : List D} {vs : List V} {i : Nat} {v : V}, Reps K C G ρ ds vs → vs[i]? = some v → ∃ d, ds[i]? = some d ∧ Rep K C G ρ d v
  | _, _, _, _, .nil, e => by simp at e
  | _, _, 0, _, .cons h _, e => by simp at e; subst e; exact ⟨_, rfl, h⟩
  | _, _, i + 1, _, .cons _ r, e => by
    obtain ⟨v, h1, h2⟩ := Reps.get' (i := i) r (by simpa using e)
    exact ⟨v, by simpa using h1, h2⟩
theorem Reps.append : ∀ {ds es : List D} {vs ws : List V}, Reps K C G ρ ds vs → Reps K C G ρ es ws → Reps K C G ρ (ds ++ es) (vs ++ ws)
  | _, _, _, _, .nil, s => s
  | _, _, _, _, .cons h r, s => .cons h (Reps.append r s)
theorem Reps.take : ∀ {ds : List D} {vs : List V} (n : Nat), Reps K C G ρ ds vs → Reps K C G ρ (ds.take n) (vs.take n)
  | _, _, 0, _ => .nil
  | _, _, _ + 1, .nil => .nil
  | _, _, n + 1, .cons h r => .cons h (Reps.take n r)
theorem Reps.drop : ∀ {ds : List D} {vs : List V} (n : Nat), Reps K C G ρ ds vs → Reps K C G ρ (ds.drop n) (vs.drop n)
  | _, _, 0, r => r
  | _, _, _ + 1, .nil => .nil
  | _, _, n + 1, .cons _ r => Reps.drop n r
theorem Reps.set {d : D} {v : V} (h : Rep K C G ρ d v) : ∀ {ds : List D} {vs : List V} (i : Nat), Reps K C G ρ ds vs → Reps K C G ρ (ds.set i d) (vs.set i v)
  | _, _, _, .nil => .nil
  | _, _, 0, .cons _ r => .cons h r
  | _, _, i + 1, .cons q r => .cons q (Reps.set h i r)
theorem Reps.reverse : ∀ {ds : List D} {vs : List V}, Reps K C G ρ ds vs → Reps K C G ρ ds.reverse vs.reverse
  | _, _, .nil => .nil
  | _, _, .cons h r => by rw [List.reverse_cons, List.reverse_cons]; exact (Reps.reverse r).append (.cons h .nil)
end

/-- who owns a cell that may change: a slot of the frame, an object of the store, an attribute -/
inductive Ow where
  | slot (i : Nat) | obj (i : Nat) | fld (i k : Nat)
structure Gh where
  G : Hp
  ρ : List Addr
  own : Addr → Option Ow

/-- what an expression may change (lv: may it change the store?), what a statement may -/
def cE (lv : Bool) : Ow → Bool
  | .slot _ => false
  | _ => lv
def cS (lv : Bool) : Ow → Bool
  | .slot _ => true
  | _ => lv

structure Stp (c : Ow → Bool) (g : Gh) (H : Hp) (g' : Gh) (H' : Hp) : Prop where
  gG : Same g.G g'.G
  fr : ∀ a o, H a = some o → (∀ w, g.own a = some w → c w = false) → H' a = some o
  lv : ∀ a, H' a = none → H a = none
  ow : ∀ a w, g.own a = some w → c w = false → g'.own a = some w
  nw : ∀ a w, g'.own a = some w → g.own a = some w ∨ H a = none
  ng : ∀ a o, g'.G a = some o → g.G a = some o ∨ H a = none ∨ ∃ w, g.own a = some w ∧ c w = true
  ro : ∀ (i : Nat) (a : Addr), g.ρ[i]? = some a → g'.ρ[i]? = some a
theorem Stp.refl {c : Ow → Bool} {g : Gh} {H : Hp} : Stp c g H g H :=
  ⟨Same.refl _, fun _ _ h _ => h, fun _ h => h, fun _ _ h _ => h, fun _ _ h => .inl h, fun _ _ h => .inl h, fun _ _ h => h⟩
theorem Stp.trans {c : Ow → Bool} {g g1 g2 : Gh} {H H1 H2 : Hp} (a : Stp c g H g1 H1) (b : Stp c g1 H1 g2 H2) : Stp c g H g2 H2 where
  gG := a.gG.trans b.gG
  fr := fun x o h hc => b.fr x o (a.fr x o h hc) fun w hw => by
    rcases a.nw x w hw with q | q
    · exact hc w q
    · rw [h] at q; cases q
  lv := fun x h => a.lv x (b.lv x h)
  ow := fun x w h hc => b.ow x w (a.ow x w h hc) hc
  nw := fun x w h => by
    rcases b.nw x w h with q | q
    · exact a.nw x w q
    · exact .inr (a.lv x q)
  ng := fun x o h => by
    rcases b.ng x o h with q | q | ⟨w, q, hc⟩
    · exact a.ng x o q
    · exact .inr (.inl (a.lv x q))
    · rcases a.nw x w q with z | z
      · exact .inr (.inr ⟨w, z, hc⟩)
      · exact .inr (.inl z)
  ro := fun i x h => b.ro i x (a.ro i x h)
theorem Stp.weak {c c' : Ow → Bool} {g g' : Gh} {H H' : Hp} (hc : ∀ w, c w = true → c' w = true) (a : Stp c g H g' H') : Stp c' g H g' H' where
  gG := a.gG
  fr := fun x o h q => a.fr x o h fun w hw => by
    cases e : c w with
    | false => rfl
    | true => have := q w hw; rw [hc w e] at this; cases this
  lv := a.lv
  ow := fun x w h q => a.ow x w h (by
    cases e : c w with
    | false => rfl
    | true => rw [hc w e] at q; cases q)
  nw := a.nw
  ng := fun x o h => (a.ng x o h).imp_right fun z => z.imp_right fun ⟨w, q, e⟩ => ⟨w, q, hc w e⟩
  ro := a.ro
theorem Stp.toS {lv : Bool} {g g' : Gh} {H H' : Hp} (a : Stp (cE lv) g H g' H') : Stp (cS lv) g H g' H' := a.weak fun w h => by
  cases w <;> first | rfl | exact h | cases h
theorem Stp.toA {lv : Bool} {g g' : Gh} {H H' : Hp} (a : Stp (cE false) g H g' H') : Stp (cE lv) g H g' H' := a.weak fun w h => by
  cases w <;> cases h
theorem Stp.toSA {lv : Bool} {g g' : Gh} {H H' : Hp} (a : Stp (cS false) g H g' H') : Stp (cS lv) g H g' H' := a.weak fun w h => by
  cases w <;> first | rfl | cases h

section
variable (K : PySem.W.Frag) (C : Cfg)
/-- what a cell that may change holds -/
def Cell (g : Gh) (H : Hp) (p : Addr) : D → Prop
  | .lst ds => ∃ vs, H p = some (.lst vs) ∧ Reps K C g.G g.ρ ds vs
  | .dK ds => ∃ ks, H p = some (.dK ks) ∧ RepK K C g.G g.ρ ds ks
  | .dT ds => ∃ ks, H p = some (.dT ks) ∧ RepT K C g.G g.ρ ds ks
  | _ => False
/-- an attribute -/
def FldOk (g : Gh) (H : Hp) (i k : Nat) (own : Bool) : Option D → Option V → Prop
  | none, x => x = none
  | some d, x => ∃ v, x = some v ∧ (if own = true then ∃ p, v = .ref p ∧ g.own p = some (.fld i k) ∧ Cell K C g H p d else Rep K C g.G g.ρ d v)
def cnt (fs : List (Option D)) : Nat := (fs.filter Option.isSome).length
structure ObOk (g : Gh) (H : Hp) (i : Nat) (ob : Ob) (a dx : Addr) (fs : List (Str × V)) : Prop where
  at_ : H a = some (.ins (C.ca ob.c) dx fs)
  own : g.own a = some (.obj i)
  len : ob.fs.length = (C.fl ob.c).length
  fld : ∀ (k : Nat) (n : Str) (od : Option D), (C.fl ob.c)[k]? = some n → ob.fs[k]? = some od → FldOk K C g H i k (C.ow ob.c k) od (fs.lookup n)
  no : ∀ m, m ∉ C.fl ob.c → fs.lookup m = none
  few : fs.length ≤ cnt ob.fs
structure StoOk (g : Gh) (H : Hp) (S : Sto) : Prop where
  sub : Same g.G H
  fro : ∀ a w, g.own a = some w → g.G a = none ∧ H a ≠ none
  rlen : g.ρ.length = S.length
  ob : ∀ (i : Nat) (ob : Ob), S[i]? = some ob → ∃ a dx fs, g.ρ[i]? = some a ∧ ObOk K C g H i ob a dx fs
/-- an exception's rendering -/
def RepX (g : Gh) (x : Exc) (cls : Value) (dx : Option Addr) : Prop :=
  cls = .ref (C.ca x.c) ∧ ((x.fs = [] ∧ C.xl x.c = [] ∧ dx = none) ∨ ∃ a fs, dx = some a ∧ g.G a = some (.xd fs) ∧ RepF K C g.G g.ρ (C.xl x.c) (x.fs.map some) fs)
structure Rel (Γ : List Bool) (g : Gh) (sl : List (Option D)) (S : Sto) (σ : L2.St) (H : Hp) : Prop where
  sto : StoOk K C g H S
  len : sl.length = σ.length
  slF : ∀ (i : Nat) (d : D), sl[i]? = some (some d) → Γ.getD i false = false → ∃ v, σ[i]? = some (some v) ∧ Rep K C g.G g.ρ d v
  slO : ∀ (i : Nat) (d : D), sl[i]? = some (some d) → Γ.getD i false = true → ∃ p, σ[i]? = some (some (.ref p)) ∧ g.own p = some (.slot i) ∧ Cell K C g H p d
  cau : ∀ (c : Cau), C.cau = some c → (sl[c.i]? = some none → σ[c.i]? = some (some (.ref c.a))) ∧ RepX K C g c.x c.cls c.dx
end

section
variable {K : PySem.W.Frag} {C : Cfg} {c : Ow → Bool} {g g' : Gh} {H H' : Hp} {S : Sto} {sl : List (Option D)} {σ : L2.St} {Γ : List Bool}
theorem Rep.step {d : D} {v : V} (h : Rep K C g.G g.ρ d v) (st : Stp c g H g' H') : Rep K C g'.G g'.ρ d v := h.mono st.gG st.ro
theorem Reps.step {d : List D} {v : List V} (h : Reps K C g.G g.ρ d v) (st : Stp c g H g' H') : Reps K C g'.G g'.ρ d v := h.mono st.gG st.ro
theorem Cell.there {p : Addr} {d : D} (h : Cell K C g H p d) : ∃ o, H p = some o := by
  cases d <;> first | exact False.elim h | (obtain ⟨vs, e, _⟩ := h; exact ⟨_, e⟩)
theorem Cell.mono {p : Addr} {d : D} (h : Cell K C g H p d) (e : H' p = H p) (hG : Same g.G g'.G) (hρ : ∀ (i : Nat) (a : Addr), g.ρ[i]? = some a → g'.ρ[i]? = some a) : Cell K C g' H' p d := by
  cases d <;> first | exact False.elim h | skip
  · obtain ⟨vs, q, r⟩ := h; exact ⟨vs, by rw [e]; exact q, r.mono hG hρ⟩
  · obtain ⟨vs, q, r⟩ := h; exact ⟨vs, by rw [e]; exact q, r.mono hG hρ⟩
  · obtain ⟨vs, q, r⟩ := h; exact ⟨vs, by rw [e]; exact q, r.mono hG hρ⟩
theorem Cell.step {p : Addr} {d : D} {w : Ow} (h : Cell K C g H p d) (st : Stp c g H g' H') (hw : g.own p = some w) (hc : c w = false) : Cell K C g' H' p d := by
  obtain ⟨o, e⟩ := h.there
  refine h.mono ?_ st.gG st.ro
  rw [e]
  exact st.fr p o e fun w' hw' => by rw [hw] at hw'; cases hw'; exact hc
theorem RepX.mono {x : Exc} {cls : Value} {dx : Option Addr} (hG : Same g.G g'.G) (hρ : ∀ (i : Nat) (a : Addr), g.ρ[i]? = some a → g'.ρ[i]? = some a) (h : RepX K C g x cls dx) : RepX K C g' x cls dx := by
  obtain ⟨h1, h2⟩ := h
  refine ⟨h1, h2.imp_right ?_⟩
  rintro ⟨a, fs, e, q, r⟩
  exact ⟨a, fs, e, hG _ _ q, r.mono hG hρ⟩
theorem cau_mono (hG : Same g.G g'.G) (hρ : ∀ (i : Nat) (a : Addr), g.ρ[i]? = some a → g'.ρ[i]? = some a) (h : ∀ (c : Cau), C.cau = some c → (sl[c.i]? = some none → σ[c.i]? = some (some (.ref c.a))) ∧ RepX K C g c.x c.cls c.dx) :
    ∀ (c : Cau), C.cau = some c → (sl[c.i]? = some none → σ[c.i]? = some (some (.ref c.a))) ∧ RepX K C g' c.x c.cls c.dx := fun c e => ⟨(h c e).1, (h c e).2.mono hG hρ⟩
/-- behind an expression: the slots are as they were -/
theorem Rel.step {lv : Bool} {S' : Sto} (r : Rel K C Γ g sl S σ H) (st : Stp (cE lv) g H g' H') (s' : StoOk K C g' H' S') : Rel K C Γ g' sl S' σ H' :=
  ⟨s', r.len, fun i d e q => let ⟨v, h1, h2⟩ := r.slF i d e q; ⟨v, h1, h2.step st⟩, fun i d e q =>
    let ⟨p, h1, h2, h3⟩ := r.slO i d e q; ⟨p, h1, st.ow p _ h2 rfl, h3.step st h2 rfl⟩, cau_mono st.gG st.ro r.cau⟩
end

/-! ### mirrors -/
inductive Rx (α : Type) where
  | ok (a : α) (S : Sto) | err (x : Exc) (S : Sto) | stuck
abbrev Mx (α : Type) := List (Option D) → Sto → Rx α
inductive Rs where
  | next (sl : List (Option D)) (S : Sto) | ret (d : D) (S : Sto) | brk (sl : List (Option D)) (S : Sto) | cont (sl : List (Option D)) (S : Sto)
  | err (x : Exc) (sl : List (Option D)) (S : Sto) | stuck
abbrev Ms := List (Option D) → Sto → Rs

structure Jd where
  C : Cfg
  W : WX
  lv : Bool

/-- readings -/
def tD (K : PySem.W.Frag) (J : Jd) (Γ : List Bool) (m : Mx D) : TE := fun σ H Q => ∃ g sl S, Rel K J.C Γ g sl S σ H ∧ match m sl S with
  | .ok d S' => ∀ g' H' v, Stp (cE J.lv) g H g' H' → Rel K J.C Γ g' sl S' σ H' → Rep K J.C g'.G g'.ρ d v → Q v H'
  | .err x S' => ∀ g' H' cls dx, Stp (cE J.lv) g H g' H' → Rel K J.C Γ g' sl S' σ H' → RepX K J.C g' x cls dx → J.W cls dx σ H'
  | .stuck => False
/-- an argument list -/
def tDs (K : PySem.W.Frag) (J : Jd) (Γ : List Bool) (m : Mx (List D)) : TA := fun σ H Q => ∃ g sl S, Rel K J.C Γ g sl S σ H ∧ match m sl S with
  | .ok d S' => ∀ g' H' v, Stp (cE J.lv) g H g' H' → Rel K J.C Γ g' sl S' σ H' → Reps K J.C g'.G g'.ρ d v → Q v H'
  | .err x S' => ∀ g' H' cls dx, Stp (cE J.lv) g H g' H' → Rel K J.C Γ g' sl S' σ H' → RepX K J.C g' x cls dx → J.W cls dx σ H'
  | .stuck => False
/-- a test -/
def tDb (K : PySem.W.Frag) (J : Jd) (Γ : List Bool) (m : Mx Bool) : TT := fun σ H Q => ∃ g sl S, Rel K J.C Γ g sl S σ H ∧ match m sl S with
  | .ok b S' => ∀ g' H', Stp (cE J.lv) g H g' H' → Rel K J.C Γ g' sl S' σ H' → Q b H'
  | .err x S' => ∀ g' H' cls dx, Stp (cE J.lv) g H g' H' → Rel K J.C Γ g' sl S' σ H' → RepX K J.C g' x cls dx → J.W cls dx σ H'
  | .stuck => False
/-- borrowed: read now, not kept -/
def RepB (K : PySem.W.Frag) (J : Jd) (g : Gh) (H : Hp) (d : D) (v : V) : Prop :=
  Rep K J.C g.G g.ρ d v ∨ ∃ p w, v = .ref p ∧ g.own p = some w ∧ cE J.lv w = false ∧ Cell K J.C g H p d
def tBo (K : PySem.W.Frag) (J : Jd) (Γ : List Bool) (m : Mx D) : TE := fun σ H Q => ∃ g sl S, Rel K J.C Γ g sl S σ H ∧ match m sl S with
  | .ok d S' => ∀ g' H' v, Stp (cE J.lv) g H g' H' → Rel K J.C Γ g' sl S' σ H' → RepB K J g' H' d v → Q v H'
  | .err x S' => ∀ g' H' cls dx, Stp (cE J.lv) g H g' H' → Rel K J.C Γ g' sl S' σ H' → RepX K J.C g' x cls dx → J.W cls dx σ H'
  | .stuck => False
/-- fresh: a new cell that nobody owns yet -/
def RepN (K : PySem.W.Frag) (C : Cfg) (g : Gh) (H : Hp) (d : D) (v : V) : Prop :=
  ∃ p, v = .ref p ∧ g.own p = none ∧ g.G p = none ∧ Cell K C g H p d
def tNw (K : PySem.W.Frag) (J : Jd) (Γ : List Bool) (m : Mx D) : TE := fun σ H Q => ∃ g sl S, Rel K J.C Γ g sl S σ H ∧ match m sl S with
  | .ok d S' => ∀ g' H' v, Stp (cE J.lv) g H g' H' → Rel K J.C Γ g' sl S' σ H' → RepN K J.C g' H' d v → (∀ p, v = .ref p → H p = none) → Q v H'
  | .err x S' => ∀ g' H' cls dx, Stp (cE J.lv) g H g' H' → Rel K J.C Γ g' sl S' σ H' → RepX K J.C g' x cls dx → J.W cls dx σ H'
  | .stuck => False

structure Js where
  J : Jd
  ΓX : List Bool
  ΓL : List Bool
  fresh : Bool
def RepR (K : PySem.W.Frag) (C : Cfg) (fresh : Bool) (g : Gh) (H : Hp) (d : D) (v : V) : Prop :=
  if fresh = true then ∃ p, v = .ref p ∧ (∃ i, g.own p = some (.slot i)) ∧ Cell K C g H p d else Rep K C g.G g.ρ d v
/-- a statement -/
def tSt (K : PySem.W.Frag) (B : Js) (Γ Γ' : List Bool) (m : Ms) : TS := fun E σ H => ∃ g sl S, Rel K B.J.C Γ g sl S σ H ∧ match m sl S with
  | .next sl' S' => ∀ g' H' σ', Stp (cS B.J.lv) g H g' H' → Rel K B.J.C Γ' g' sl' S' σ' H' → E.nx σ' H'
  | .ret d S' => ∀ g' H' v, Stp (cS B.J.lv) g H g' H' → StoOk K B.J.C g' H' S' → RepR K B.J.C B.fresh g' H' d v → E.rt v H'
  | .brk sl' S' => ∀ g' H' σ', Stp (cS B.J.lv) g H g' H' → Rel K B.J.C B.ΓL g' sl' S' σ' H' → E.bk σ' H'
  | .cont sl' S' => ∀ g' H' σ', Stp (cS B.J.lv) g H g' H' → Rel K B.J.C B.ΓL g' sl' S' σ' H' → E.ct σ' H'
  | .err x sl' S' => ∀ g' H' σ' cls dx, Stp (cS B.J.lv) g H g' H' → Rel K B.J.C B.ΓX g' sl' S' σ' H' → RepX K B.J.C g' x cls dx → B.J.W cls dx σ' H'
  | .stuck => False

def SD (X : Cx) (J : Jd) (Γ : List Bool) (e : Expr) (m : Mx D) : Prop := PE X e (tD X.K J Γ m)
def SB (X : Cx) (J : Jd) (Γ : List Bool) (e : Expr) (m : Mx D) : Prop := PE X e (tBo X.K J Γ m)
def SN (X : Cx) (J : Jd) (Γ : List Bool) (e : Expr) (m : Mx D) : Prop := PE X e (tNw X.K J Γ m)
def SDs (X : Cx) (J : Jd) (Γ : List Bool) (es : List Expr) (m : Mx (List D)) : Prop := PA X es (tDs X.K J Γ m)
def ST (X : Cx) (J : Jd) (Γ : List Bool) (e : Expr) (m : Mx Bool) : Prop := PT X e (tDb X.K J Γ m)
def SS (X : Cx) (B : Js) (Γ Γ' : List Bool) (st : Stmt) (m : Ms) : Prop := PS X st (tSt X.K B Γ Γ' m)
def SSs (X : Cx) (B : Js) (Γ Γ' : List Bool) (st : List Stmt) (m : Ms) : Prop := PSs X st (tSt X.K B Γ Γ' m)

/-! ### consequence -/
theorem PE.imp {X : Cx} {e : Expr} {t t' : TE} (h : PE X e t) (k : ∀ σ H Q, t' σ H Q → t σ H Q) : PE X e t' := ⟨fun pins s σ H Q I q => h.run pins s σ H Q I (k σ H Q q)⟩
theorem PT.imp {X : Cx} {e : Expr} {t t' : TT} (h : PT X e t) (k : ∀ σ H Q, t' σ H Q → t σ H Q) : PT X e t' := ⟨fun pins s σ H Q I q => h.run pins s σ H Q I (k σ H Q q)⟩
theorem PA.imp {X : Cx} {e : List Expr} {t t' : TA} (h : PA X e t) (k : ∀ σ H Q, t' σ H Q → t σ H Q) : PA X e t' := ⟨fun pos pins s σ H Q I q => h.run pos pins s σ H Q I (k σ H Q q)⟩
theorem PS.imp {X : Cx} {e : Stmt} {t t' : TS} (h : PS X e t) (k : ∀ D σ H, t' D σ H → t D σ H) : PS X e t' := ⟨fun pins s σ H Q I q => h.run pins s σ H Q I (k Q σ H q)⟩
theorem PSs.imp {X : Cx} {e : List Stmt} {t t' : TS} (h : PSs X e t) (k : ∀ D σ H, t' D σ H → t D σ H) : PSs X e t' := ⟨fun pins s σ H Q I q => h.run pins s σ H Q I (k Q σ H q)⟩
end Sm
set_option Elab.async false
set_option linter.all false
set_option maxRecDepth 100000
set_option maxHeartbeats 1000000
/-! Sim 2: expressions. -/
namespace Sm
open PySem PySem.Spec PyProof.Rows L2

/-! ### mirrors' words -/
section
variable {α β γ : Type}
def pureX (a : α) : Mx α := fun _ S => .ok a S
def bindX (m : Mx α) (f : α → Mx β) : Mx β := fun sl S => match m sl S with
  | .ok a S' => f a sl S'
  | .err x S' => .err x S'
  | .stuck => .stuck
def ofO (o : Option α) : Mx α := fun _ S => match o with
  | some a => .ok a S
  | none => .stuck
end
def mC (d : D) : Mx D := fun _ S => .ok d S
def mVar (i : Nat) : Mx D := fun sl S => match sl[i]? with
  | some (some d) => .ok d S
  | _ => .stuck
def mOp (f : D → D → Option D) (ma mb : Mx D) : Mx D := bindX ma fun x => bindX mb fun y => ofO (f x y)
def mUn (f : D → Option D) (ma : Mx D) : Mx D := bindX ma fun x => ofO (f x)

/-! ### posts -/
section
variable (K : PySem.W.Frag) (J : Jd) (Γ : List Bool) (σ : L2.St) (sl : List (Option D)) (g : Gh) (H : Hp)
def PErr (x : Exc) (S' : Sto) : Prop := ∀ g' H' cls dx, Stp (cE J.lv) g H g' H' → Rel K J.C Γ g' sl S' σ H' → RepX K J.C g' x cls dx → J.W cls dx σ H'
def PD (Q : VK) : Rx D → Prop
  | .ok d S' => ∀ g' H' v, Stp (cE J.lv) g H g' H' → Rel K J.C Γ g' sl S' σ H' → Rep K J.C g'.G g'.ρ d v → Q v H'
  | .err x S' => PErr K J Γ σ sl g H x S'
  | .stuck => False
def PB (Q : VK) : Rx D → Prop
  | .ok d S' => ∀ g' H' v, Stp (cE J.lv) g H g' H' → Rel K J.C Γ g' sl S' σ H' → RepB K J g' H' d v → Q v H'
  | .err x S' => PErr K J Γ σ sl g H x S'
  | .stuck => False
def PN (Q : VK) : Rx D → Prop
  | .ok d S' => ∀ g' H' v, Stp (cE J.lv) g H g' H' → Rel K J.C Γ g' sl S' σ H' → RepN K J.C g' H' d v → (∀ p, v = .ref p → H p = none) → Q v H'
  | .err x S' => PErr K J Γ σ sl g H x S'
  | .stuck => False
def PDs (Q : List V → Hp → Prop) : Rx (List D) → Prop
  | .ok d S' => ∀ g' H' v, Stp (cE J.lv) g H g' H' → Rel K J.C Γ g' sl S' σ H' → Reps K J.C g'.G g'.ρ d v → Q v H'
  | .err x S' => PErr K J Γ σ sl g H x S'
  | .stuck => False
def PT' (Q : Bool → Hp → Prop) : Rx Bool → Prop
  | .ok b S' => ∀ g' H', Stp (cE J.lv) g H g' H' → Rel K J.C Γ g' sl S' σ H' → Q b H'
  | .err x S' => PErr K J Γ σ sl g H x S'
  | .stuck => False
end
section
variable {K : PySem.W.Frag} {J : Jd} {Γ : List Bool} {σ : L2.St} {sl : List (Option D)} {g : Gh} {H : Hp} {S : Sto}
theorem tD_iff {m : Mx D} {Q : VK} : tD K J Γ m σ H Q ↔ ∃ g sl S, Rel K J.C Γ g sl S σ H ∧ PD K J Γ σ sl g H Q (m sl S) := by
  constructor
  · rintro ⟨g, sl, S, r, h⟩
    exact ⟨g, sl, S, r, by cases e : m sl S <;> (rw [e] at h; exact h)⟩
  · rintro ⟨g, sl, S, r, h⟩
    exact ⟨g, sl, S, r, by cases e : m sl S <;> (rw [e] at h; exact h)⟩
theorem tBo_iff {m : Mx D} {Q : VK} : tBo K J Γ m σ H Q ↔ ∃ g sl S, Rel K J.C Γ g sl S σ H ∧ PB K J Γ σ sl g H Q (m sl S) := by
  constructor
  · rintro ⟨g, sl, S, r, h⟩
    exact ⟨g, sl, S, r, by cases e : m sl S <;> (rw [e] at h; exact h)⟩
  · rintro ⟨g, sl, S, r, h⟩
    exact ⟨g, sl, S, r, by cases e : m sl S <;> (rw [e] at h; exact h)⟩
theorem tNw_iff {m : Mx D} {Q : VK} : tNw K J Γ m σ H Q ↔ ∃ g sl S, Rel K J.C Γ g sl S σ H ∧ PN K J Γ σ sl g H Q (m sl S) := by
  constructor
  · rintro ⟨g, sl, S, r, h⟩
    exact ⟨g, sl, S, r, by cases e : m sl S <;> (rw [e] at h; exact h)⟩
  · rintro ⟨g, sl, S, r, h⟩
    exact ⟨g, sl, S, r, by cases e : m sl S <;> (rw [e] at h; exact h)⟩
theorem tDs_iff {m : Mx (List D)} {Q : List V → Hp → Prop} : tDs K J Γ m σ H Q ↔ ∃ g sl S, Rel K J.C Γ g sl S σ H ∧ PDs K J Γ σ sl g H Q (m sl S) := by
  constructor
  · rintro ⟨g, sl, S, r, h⟩
    exact ⟨g, sl, S, r, by cases e : m sl S <;> (rw [e] at h; exact h)⟩
  · rintro ⟨g, sl, S, r, h⟩
    exact ⟨g, sl, S, r, by cases e : m sl S <;> (rw [e] at h; exact h)⟩
theorem tDb_iff {m : Mx Bool} {Q : Bool → Hp → Prop} : tDb K J Γ m σ H Q ↔ ∃ g sl S, Rel K J.C Γ g sl S σ H ∧ PT' K J Γ σ sl g H Q (m sl S) := by
  constructor
  · rintro ⟨g, sl, S, r, h⟩
    exact ⟨g, sl, S, r, by cases e : m sl S <;> (rw [e] at h; exact h)⟩
  · rintro ⟨g, sl, S, r, h⟩
    exact ⟨g, sl, S, r, by cases e : m sl S <;> (rw [e] at h; exact h)⟩

theorem PErr.step {g1 : Gh} {H1 : Hp} {x : Exc} {S' : Sto} (st : Stp (cE J.lv) g H g1 H1) (h : PErr K J Γ σ sl g H x S') : PErr K J Γ σ sl g1 H1 x S' :=
  fun g' H' cls dx s r e => h g' H' cls dx (st.trans s) r e
theorem PD.step {g1 : Gh} {H1 : Hp} {Q : VK} {r : Rx D} (st : Stp (cE J.lv) g H g1 H1) (h : PD K J Γ σ sl g H Q r) : PD K J Γ σ sl g1 H1 Q r := by
  cases r with
  | ok d S' => exact fun g' H' v s r e => h g' H' v (st.trans s) r e
  | err x S' => exact PErr.step st h
  | stuck => exact h
theorem PB.step {g1 : Gh} {H1 : Hp} {Q : VK} {r : Rx D} (st : Stp (cE J.lv) g H g1 H1) (h : PB K J Γ σ sl g H Q r) : PB K J Γ σ sl g1 H1 Q r := by
  cases r with
  | ok d S' => exact fun g' H' v s r e => h g' H' v (st.trans s) r e
  | err x S' => exact PErr.step st h
  | stuck => exact h
theorem PN.step {g1 : Gh} {H1 : Hp} {Q : VK} {r : Rx D} (st : Stp (cE J.lv) g H g1 H1) (h : PN K J Γ σ sl g H Q r) : PN K J Γ σ sl g1 H1 Q r := by
  cases r with
  | ok d S' => exact fun g' H' v s r e n => h g' H' v (st.trans s) r e fun p hp => st.lv p (n p hp)
  | err x S' => exact PErr.step st h
  | stuck => exact h
theorem PDs.step {g1 : Gh} {H1 : Hp} {Q : List V → Hp → Prop} {r : Rx (List D)} (st : Stp (cE J.lv) g H g1 H1) (h : PDs K J Γ σ sl g H Q r) : PDs K J Γ σ sl g1 H1 Q r := by
  cases r with
  | ok d S' => exact fun g' H' v s r e => h g' H' v (st.trans s) r e
  | err x S' => exact PErr.step st h
  | stuck => exact h
theorem PT'.step {g1 : Gh} {H1 : Hp} {Q : Bool → Hp → Prop} {r : Rx Bool} (st : Stp (cE J.lv) g H g1 H1) (h : PT' K J Γ σ sl g H Q r) : PT' K J Γ σ sl g1 H1 Q r := by
  cases r with
  | ok d S' => exact fun g' H' s r => h g' H' (st.trans s) r
  | err x S' => exact PErr.step st h
  | stuck => exact h
theorem RepB.step {d : D} {v : V} {g' : Gh} {H' : Hp} (h : RepB K J g H d v) (st : Stp (cE J.lv) g H g' H') : RepB K J g' H' d v := by
  rcases h with h | ⟨p, w, rfl, hw, hc, h⟩
  · exact .inl (h.step st)
  · exact .inr ⟨p, w, rfl, st.ow p w hw hc, hc, h.step st hw hc⟩
/-- the value now -/
theorem PD.now {Q : VK} {d : D} {v : V} (h : PD K J Γ σ sl g H Q (.ok d S)) (r : Rel K J.C Γ g sl S σ H) (e : Rep K J.C g.G g.ρ d v) : Q v H := h g H v Stp.refl r e
theorem PB.of {Q : VK} {r : Rx D} (h : PB K J Γ σ sl g H Q r) : PD K J Γ σ sl g H Q r := by
  cases r with
  | ok d S' => exact fun g' H' v s r e => h g' H' v s r (.inl e)
  | err x S' => exact h
  | stuck => exact h

/-! ### a new cell -/
theorem stp_new {c : Ow → Bool} {p : Addr} {o : HO} (hp : H p = none) : Stp c g H g (upd H p o) where
  gG := Same.refl _
  fr := fun a u h _ => by rw [upd_ne (ne_of_none h hp)]; exact h
  lv := fun a h => by
    by_cases e : a = p
    · rw [e]; exact hp
    · rw [upd_ne e] at h; exact h
  ow := fun _ _ h _ => h
  nw := fun _ _ h => .inl h
  ng := fun _ _ h => .inl h
  ro := fun _ _ h => h
/-- .. that is frozen -/
def Gh.frz (g : Gh) (p : Addr) (o : HO) : Gh := { g with G := upd g.G p o }
theorem stp_frz {c : Ow → Bool} {p : Addr} {o : HO} (hp : H p = none) (hg : Same g.G H) : Stp c g H (g.frz p o) (upd H p o) where
  gG := fun a u h => by
    show upd g.G p o a = _
    rw [upd_ne (ne_of_none (hg a u h) hp)]; exact h
  fr := fun a u h _ => by rw [upd_ne (ne_of_none h hp)]; exact h
  lv := fun a h => by
    by_cases e : a = p
    · rw [e]; exact hp
    · rw [upd_ne e] at h; exact h
  ow := fun _ _ h _ => h
  nw := fun _ _ h => .inl h
  ng := fun a u h => by
    by_cases e : a = p
    · exact .inr (.inl (by rw [e]; exact hp))
    · exact .inl (by
        have h' : upd g.G p o a = some u := h
        rw [upd_ne e] at h'; exact h')
  ro := fun _ _ h => h
theorem sto_keep {K : PySem.W.Frag} {C : Cfg} {g g' : Gh} {H H' : Hp} {S : Sto} (s : StoOk K C g H S) (sub : Same g'.G H') (hρ : g'.ρ = g.ρ) (hG : Same g.G g'.G)
    (fro : ∀ a w, g'.own a = some w → g'.G a = none ∧ H' a ≠ none)
    (k : ∀ a w, g.own a = some w → (∀ i, w ≠ .slot i) → g'.own a = some w ∧ H' a = H a) : StoOk K C g' H' S := by
  refine ⟨sub, fro, by rw [hρ]; exact s.rlen, fun i ob e => ?_⟩
  obtain ⟨a, dx, fs, h1, o⟩ := s.ob i ob e
  obtain ⟨k1, k2⟩ := k a _ o.own (fun _ z => by cases z)
  refine ⟨a, dx, fs, by rw [hρ]; exact h1, by rw [k2]; exact o.at_, k1, o.len, fun j n od hn ho => ?_, o.no, o.few⟩
  have q := o.fld j n od hn ho
  cases od with
  | none => exact q
  | some d =>
    obtain ⟨v, e1, e2⟩ := q
    refine ⟨v, e1, ?_⟩
    by_cases hw : C.ow ob.c j = true
    · rw [if_pos hw] at e2 ⊢
      obtain ⟨p, rfl, hp, hc⟩ := e2
      obtain ⟨k3, k4⟩ := k p _ hp (fun _ z => by cases z)
      exact ⟨p, rfl, k3, hc.mono k4 hG (by rw [hρ]; exact fun _ _ z => z)⟩
    · rw [if_neg hw] at e2 ⊢
      exact e2.mono hG (by rw [hρ]; exact fun _ _ z => z)
theorem Rel.sub (r : Rel K J.C Γ g sl S σ H) : Same g.G H := r.sto.sub
theorem own_ne {C : Cfg} {p : Addr} (s : StoOk K C g H S) (hp : H p = none) {a : Addr} {w : Ow} (e : g.own a = some w) : a ≠ p := fun z => by
  rw [z] at e
  exact (s.fro p w e).2 hp
theorem sto_new {C : Cfg} {p : Addr} {o : HO} (s : StoOk K C g H S) (hp : H p = none) : StoOk K C g (upd H p o) S := by
  refine sto_keep s (fun a u h => by rw [upd_ne (ne_of_none (s.sub a u h) hp)]; exact s.sub a u h) rfl (Same.refl _) (fun a w e => ⟨(s.fro a w e).1, by rw [upd_ne (own_ne s hp e)]; exact (s.fro a w e).2⟩) fun a w e _ => ⟨e, by rw [upd_ne (own_ne s hp e)]⟩
theorem sto_frz {C : Cfg} {p : Addr} {o : HO} (s : StoOk K C g H S) (hp : H p = none) : StoOk K C (g.frz p o) (upd H p o) S := by
  refine sto_keep s (fun a u h => ?_) rfl (stp_frz (c := fun _ => false) hp s.sub).gG (fun a w e => ⟨?_, by rw [upd_ne (own_ne s hp e)]; exact (s.fro a w e).2⟩) fun a w e _ => ⟨e, by rw [upd_ne (own_ne s hp e)]⟩
  · by_cases e : a = p
    · subst e
      have h' : upd g.G a o a = some u := h
      rw [upd_same] at h' ⊢; exact h'
    · have h' : upd g.G p o a = some u := h
      rw [upd_ne e] at h' ⊢; exact s.sub a u h'
  · show upd g.G p o a = none
    rw [upd_ne (own_ne s hp e)]; exact (s.fro a w e).1
/-- a new frozen cell is handed on -/
theorem PD.new {Q : VK} {d : D} {p : Addr} {o : HO} (h : PD K J Γ σ sl g H Q (.ok d S)) (r : Rel K J.C Γ g sl S σ H) (hp : H p = none)
    (e : ∀ G', Same g.G G' → G' p = some o → Rep K J.C G' g.ρ d (.ref p)) : Q (.ref p) (upd H p o) := by
  have st : Stp (cE J.lv) g H (g.frz p o) (upd H p o) := stp_frz hp r.sub
  exact h _ _ _ st (r.step st (sto_frz r.sto hp)) (e _ st.gG upd_same)
theorem PD.newL {Q : VK} {ds : List D} {vs : List V} {p : Addr} (h : PD K J Γ σ sl g H Q (.ok (.lst ds) S)) (r : Rel K J.C Γ g sl S σ H) (hp : H p = none) (e : Reps K J.C g.G g.ρ ds vs) : Q (.ref p) (upd H p (.lst vs)) :=
  h.new r hp fun G' hG hp' => .lst (.of hp') (e.mono hG fun _ _ z => z)
theorem PD.newT {Q : VK} {ds : List D} {vs : List V} {p : Addr} (h : PD K J Γ σ sl g H Q (.ok (.tup ds) S)) (r : Rel K J.C Γ g sl S σ H) (hp : H p = none) (e : Reps K J.C g.G g.ρ ds vs) : Q (.ref p) (upd H p (.tup vs)) :=
  h.new r hp fun G' hG hp' => .tup (.of hp') (e.mono hG fun _ _ z => z)
/-- a new cell of nobody's -/
theorem PN.new {Q : VK} {d : D} {p : Addr} {o : HO} (h : PN K J Γ σ sl g H Q (.ok d S)) (r : Rel K J.C Γ g sl S σ H) (hp : H p = none)
    (e : Cell K J.C g (upd H p o) p d) : Q (.ref p) (upd H p o) := by
  have st : Stp (cE J.lv) g H g (upd H p o) := stp_new hp
  refine h _ _ _ st (r.step st (sto_new r.sto hp)) ⟨p, rfl, ?_, ?_, e⟩ fun q hq => by cases hq; exact hp
  · cases q : g.own p with
    | none => rfl
    | some w => exact absurd hp (r.sto.fro p w q).2
  · exact r.sub.free hp
theorem PN.newL {Q : VK} {ds : List D} {vs : List V} {p : Addr} (h : PN K J Γ σ sl g H Q (.ok (.lst ds) S)) (r : Rel K J.C Γ g sl S σ H) (hp : H p = none) (e : Reps K J.C g.G g.ρ ds vs) : Q (.ref p) (upd H p (.lst vs)) :=
  h.new r hp ⟨vs, upd_same, e⟩

/-! ### views of a borrowed value -/
theorem RepB.lst {ds : List D} {v : V} (h : RepB K J g H (.lst ds) v) (hs : Same g.G H) : ∃ p vs, v = .ref p ∧ SqL K H p vs ∧ Reps K J.C g.G g.ρ ds vs := by
  rcases h with h | ⟨p, w, rfl, _, _, vs, e, r⟩
  · cases h with
    | lst a r => exact ⟨_, _, rfl, sqL_mono hs a, r⟩
  · exact ⟨p, vs, rfl, .of e, r⟩
theorem RepB.tup {ds : List D} {v : V} (h : RepB K J g H (.tup ds) v) (hs : Same g.G H) : ∃ p vs, v = .ref p ∧ SqT K H p vs ∧ Reps K J.C g.G g.ρ ds vs := by
  rcases h with h | ⟨p, w, rfl, _, _, z⟩
  · cases h with
    | tup a r => exact ⟨_, _, rfl, sqT_mono hs a, r⟩
  · exact False.elim z
theorem RepB.dK {ds : List (Key × D)} {v : V} (h : RepB K J g H (.dK ds) v) (hs : Same g.G H) : ∃ p vs, v = .ref p ∧ H p = some (.dK vs) ∧ RepK K J.C g.G g.ρ ds vs := by
  rcases h with h | ⟨p, w, rfl, _, _, vs, e, r⟩
  · cases h with
    | dK a r => exact ⟨_, _, rfl, hs _ _ a, r⟩
  · exact ⟨p, vs, rfl, e, r⟩
theorem RepB.int {i : Int} {v : V} (h : RepB K J g H (.int i) v) : v = .int i := by
  rcases h with h | ⟨p, w, rfl, _, _, z⟩
  · cases h; rfl
  · exact False.elim z
theorem RepB.str {i : Str} {v : V} (h : RepB K J g H (.str i) v) : v = .str i := by
  rcases h with h | ⟨p, w, rfl, _, _, z⟩
  · cases h; rfl
  · exact False.elim z
theorem RepB.bl {i : Bool} {v : V} (h : RepB K J g H (.bl i) v) : v = .bl i := by
  rcases h with h | ⟨p, w, rfl, _, _, z⟩
  · cases h; rfl
  · exact False.elim z
theorem RepB.non {v : V} (h : RepB K J g H .non v) : v = .non := by
  rcases h with h | ⟨p, w, rfl, _, _, z⟩
  · cases h; rfl
  · exact False.elim z
theorem RepB.obj {c : Nat} {fs : List (Option D)} {v : V} (h : RepB K J g H (.obj c fs) v) : Rep K J.C g.G g.ρ (.obj c fs) v := by
  rcases h with h | ⟨p, w, rfl, _, _, z⟩
  · exact h
  · exact False.elim z
theorem RepB.ref {c : Nat} {v : V} (h : RepB K J g H (.ref c) v) : ∃ a, v = .ref a ∧ g.ρ[c]? = some a := by
  rcases h with h | ⟨p, w, rfl, _, _, z⟩
  · cases h with
    | ref e => exact ⟨_, rfl, e⟩
  · exact False.elim z

/-! ### chaining -/
structure Post {β : Type} (K : PySem.W.Frag) (J : Jd) (Γ : List Bool) (σ : L2.St) (sl : List (Option D)) (P : Gh → Hp → Rx β → Prop) : Prop where
  err : ∀ g H x S', P g H (.err x S') → PErr K J Γ σ sl g H x S'
  stuck : ∀ g H, P g H .stuck → False
  step : ∀ g H g1 H1 r, Stp (cE J.lv) g H g1 H1 → P g H r → P g1 H1 r
theorem postD {Q : VK} : Post K J Γ σ sl (fun g H r => PD K J Γ σ sl g H Q r) := ⟨fun _ _ _ _ h => h, fun _ _ h => h, fun _ _ _ _ _ s h => PD.step s h⟩
theorem postB {Q : VK} : Post K J Γ σ sl (fun g H r => PB K J Γ σ sl g H Q r) := ⟨fun _ _ _ _ h => h, fun _ _ h => h, fun _ _ _ _ _ s h => PB.step s h⟩
theorem postN {Q : VK} : Post K J Γ σ sl (fun g H r => PN K J Γ σ sl g H Q r) := ⟨fun _ _ _ _ h => h, fun _ _ h => h, fun _ _ _ _ _ s h => PN.step s h⟩
theorem postDs {Q : List V → Hp → Prop} : Post K J Γ σ sl (fun g H r => PDs K J Γ σ sl g H Q r) := ⟨fun _ _ _ _ h => h, fun _ _ h => h, fun _ _ _ _ _ s h => PDs.step s h⟩
theorem postT {Q : Bool → Hp → Prop} : Post K J Γ σ sl (fun g H r => PT' K J Γ σ sl g H Q r) := ⟨fun _ _ _ _ h => h, fun _ _ h => h, fun _ _ _ _ _ s h => PT'.step s h⟩
section
variable {β : Type} {P : Gh → Hp → Rx β → Prop}
/-- a part is evaluated -/
theorem chB {m : Mx D} {f : D → Mx β} {R : VK} (hP : Post K J Γ σ sl P) (r : Rel K J.C Γ g sl S σ H) (h : P g H (bindX m f sl S))
    (k : ∀ g1 H1 d S1 x, Stp (cE J.lv) g H g1 H1 → Rel K J.C Γ g1 sl S1 σ H1 → RepB K J g1 H1 d x → P g1 H1 (f d sl S1) → R x H1) : tBo K J Γ m σ H R := by
  refine tBo_iff.mpr ⟨g, sl, S, r, ?_⟩
  unfold bindX at h
  cases e : m sl S with
  | ok d S' =>
    rw [e] at h
    exact fun g' H' v s r' b => k g' H' d S' v s r' b (hP.step _ _ _ _ _ s h)
  | err x S' =>
    rw [e] at h
    exact hP.err _ _ _ _ h
  | stuck =>
    rw [e] at h
    exact hP.stuck _ _ h
theorem chD {m : Mx D} {f : D → Mx β} {R : VK} (hP : Post K J Γ σ sl P) (r : Rel K J.C Γ g sl S σ H) (h : P g H (bindX m f sl S))
    (k : ∀ g1 H1 d S1 x, Stp (cE J.lv) g H g1 H1 → Rel K J.C Γ g1 sl S1 σ H1 → Rep K J.C g1.G g1.ρ d x → P g1 H1 (f d sl S1) → R x H1) : tD K J Γ m σ H R := by
  refine tD_iff.mpr ⟨g, sl, S, r, ?_⟩
  unfold bindX at h
  cases e : m sl S with
  | ok d S' =>
    rw [e] at h
    exact fun g' H' v s r' b => k g' H' d S' v s r' b (hP.step _ _ _ _ _ s h)
  | err x S' =>
    rw [e] at h
    exact hP.err _ _ _ _ h
  | stuck =>
    rw [e] at h
    exact hP.stuck _ _ h
theorem chDs {m : Mx (List D)} {f : List D → Mx β} {R : List V → Hp → Prop} (hP : Post K J Γ σ sl P) (r : Rel K J.C Γ g sl S σ H) (h : P g H (bindX m f sl S))
    (k : ∀ g1 H1 d S1 x, Stp (cE J.lv) g H g1 H1 → Rel K J.C Γ g1 sl S1 σ H1 → Reps K J.C g1.G g1.ρ d x → P g1 H1 (f d sl S1) → R x H1) : tDs K J Γ m σ H R := by
  refine tDs_iff.mpr ⟨g, sl, S, r, ?_⟩
  unfold bindX at h
  cases e : m sl S with
  | ok d S' =>
    rw [e] at h
    exact fun g' H' v s r' b => k g' H' d S' v s r' b (hP.step _ _ _ _ _ s h)
  | err x S' =>
    rw [e] at h
    exact hP.err _ _ _ _ h
  | stuck =>
    rw [e] at h
    exact hP.stuck _ _ h
theorem chT {m : Mx Bool} {f : Bool → Mx β} {R : Bool → Hp → Prop} (hP : Post K J Γ σ sl P) (r : Rel K J.C Γ g sl S σ H) (h : P g H (bindX m f sl S))
    (k : ∀ g1 H1 d S1, Stp (cE J.lv) g H g1 H1 → Rel K J.C Γ g1 sl S1 σ H1 → P g1 H1 (f d sl S1) → R d H1) : tDb K J Γ m σ H R := by
  refine tDb_iff.mpr ⟨g, sl, S, r, ?_⟩
  unfold bindX at h
  cases e : m sl S with
  | ok d S' =>
    rw [e] at h
    exact fun g' H' s r' => k g' H' d S' s r' (hP.step _ _ _ _ _ s h)
  | err x S' =>
    rw [e] at h
    exact hP.err _ _ _ _ h
  | stuck =>
    rw [e] at h
    exact hP.stuck _ _ h
theorem ofO_of {o : Option β} (hP : Post K J Γ σ sl P) (h : P g H (ofO o sl S)) : ∃ z, o = some z ∧ P g H (.ok z S) := by
  cases o with
  | none => exact (hP.stuck _ _ h).elim
  | some z => exact ⟨z, rfl, h⟩
end
end

/-! ### rules -/
section
variable {X : Cx} {J : Jd} {Γ : List Bool} {a b c e : Expr} {ma mb mc : Mx D} {pos : Pos}
theorem sb_of (h : SD X J Γ e ma) : SB X J Γ e ma := PE.imp h fun σ H Q q => by
  obtain ⟨g, sl, S, r, p⟩ := tBo_iff.mp q
  exact tD_iff.mpr ⟨g, sl, S, r, p.of⟩
theorem sd_scal {d : D} {v : V} (hr : ∀ K C G ρ, Rep K C G ρ d v) (h : PE X e (tC v)) : SD X J Γ e (mC d) := PE.imp h fun σ H Q q => by
  obtain ⟨g, sl, S, r, p⟩ := tD_iff.mp q
  exact PD.now p r (hr _ _ _ _)
theorem sd_int {i : Int} {j : Nat} : SD X J Γ (.Constant (.int i) j pos) (mC (.int i)) := sd_scal (fun _ _ _ _ => .int i) pe_int
theorem sd_bl {i : Bool} {j : Nat} : SD X J Γ (.Constant (.bool i) j pos) (mC (.bl i)) := sd_scal (fun _ _ _ _ => .bl i) pe_bl
theorem sd_str {i : Str} {j : Nat} : SD X J Γ (.Constant (.str i) j pos) (mC (.str i)) := sd_scal (fun _ _ _ _ => .str i) pe_str
theorem sd_non {j : Nat} : SD X J Γ (.Constant .none j pos) (mC .non) := sd_scal (fun _ _ _ _ => .non) pe_non
theorem sd_glob {d : D} {v : V} {u : Value} {x : Str} (hm : X.mg x = some u) (hv : RelV v u) (hr : ∀ C G ρ, Rep X.K C G ρ d v) (hg : Gl X x := by rfl) (hd : (x == ("__debug__" : Str)) = false := by decide) : SD X J Γ (.Name x pos) (mC d) :=
  PE.imp (pe_glob hg hm hv hd) fun σ H Q q => by
    obtain ⟨g, sl, S, r, p⟩ := tD_iff.mp q
    exact PD.now p r (hr _ _ _)
theorem mVar_inv {β : Type} {P : Gh → Hp → Rx D → Prop} {K : PySem.W.Frag} {σ : L2.St} {sl : List (Option D)} {g : Gh} {H : Hp} {S : Sto} (hP : Post K J Γ σ sl P) {i : Nat} (h : P g H (mVar i sl S)) : ∃ d, sl[i]? = some (some d) ∧ P g H (.ok d S) := by
  unfold mVar at h
  split at h
  · rename_i d e
    exact ⟨d, e, h⟩
  · exact (hP.stuck _ _ h).elim
theorem sd_var (i : Nat) {x : Str} (hΓ : Γ.getD i false = false := by rfl) (hN : X.N[i]? = some x := by rfl) (hv : Vis X.env.scope x := by first | exact Or.inl rfl | exact Or.inr (Or.inl rfl) | exact Or.inr (Or.inr rfl)) (hd : (x == ("__debug__" : Str)) = false := by decide)
    (hcd : (x == ("__classdict__" : Str)) = false := by decide) : SD X J Γ (.Name x pos) (mVar i) := PE.imp (pe_var hN hv hd hcd) fun σ H Q q => by
  obtain ⟨g, sl, S, r, p⟩ := tD_iff.mp q
  obtain ⟨d, e, p⟩ := mVar_inv (β := Unit) postD p
  obtain ⟨v, h1, h2⟩ := r.slF i d e hΓ
  exact ⟨v, h1, PD.now p r h2⟩
theorem sb_var (i : Nat) {x : Str} (hN : X.N[i]? = some x := by rfl) (hv : Vis X.env.scope x := by first | exact Or.inl rfl | exact Or.inr (Or.inl rfl) | exact Or.inr (Or.inr rfl)) (hd : (x == ("__debug__" : Str)) = false := by decide)
    (hcd : (x == ("__classdict__" : Str)) = false := by decide) : SB X J Γ (.Name x pos) (mVar i) := PE.imp (pe_var hN hv hd hcd) fun σ H Q q => by
  obtain ⟨g, sl, S, r, p⟩ := tBo_iff.mp q
  obtain ⟨d, e, p⟩ := mVar_inv (β := Unit) postB p
  by_cases hΓ : Γ.getD i false = false
  · obtain ⟨v, h1, h2⟩ := r.slF i d e hΓ
    exact ⟨v, h1, p g H v Stp.refl r (.inl h2)⟩
  · obtain ⟨u, h1, h2, h3⟩ := r.slO i d e (by cases q : Γ.getD i false <;> simp_all)
    exact ⟨.ref u, h1, p g H _ Stp.refl r (.inr ⟨u, _, rfl, h2, rfl, h3⟩)⟩

/-- an operation of two values -/
def Op2 (K : PySem.W.Frag) (r : R2) (f : D → D → Option D) : Prop := ∀ (J : Jd) (Γ : List Bool) (σ : L2.St) (sl : List (Option D)) (g : Gh) (H : Hp) (S : Sto) (Q : VK) (d e z : D) (x y : V),
  f d e = some z → Rel K J.C Γ g sl S σ H → RepB K J g H d x → RepB K J g H e y → PD K J Γ σ sl g H Q (.ok z S) → r x y H Q
def Op1 (K : PySem.W.Frag) (r : V → Hp → VK → Prop) (f : D → Option D) : Prop := ∀ (J : Jd) (Γ : List Bool) (σ : L2.St) (sl : List (Option D)) (g : Gh) (H : Hp) (S : Sto) (Q : VK) (d z : D) (x : V),
  f d = some z → Rel K J.C Γ g sl S σ H → RepB K J g H d x → PD K J Γ σ sl g H Q (.ok z S) → r x H Q
theorem op_run {r : R2} {f : D → D → Option D} (hf : Op2 X.K r f) {σ : L2.St} {H : Hp} {Q : VK} (q : tD X.K J Γ (mOp f ma mb) σ H Q) : tOp r (tBo X.K J Γ ma) (tBo X.K J Γ mb) σ H Q := by
  obtain ⟨g, sl, S, rl, p⟩ := tD_iff.mp q
  refine chB postD rl p fun g1 H1 d S1 x st1 r1 b1 p1 => ?_
  refine chB postD r1 p1 fun g2 H2 e S2 y st2 r2 b2 p2 => ?_
  obtain ⟨z, hz, p3⟩ := ofO_of postD p2
  exact hf J Γ σ sl g2 H2 S2 Q d e z x y hz r2 (b1.step st2) b2 p3
theorem sd_op {op : Operator} {r : R2} {f : D → D → Option D} (ho : OpR X (binaryOp op) r) (hf : Op2 X.K r f) (ha : SB X J Γ a ma) (hb : SB X J Γ b mb) : SD X J Γ (.BinOp a op b pos) (mOp f ma mb) :=
  PE.imp (pe_op ho ha hb) fun σ H Q q => op_run hf q
theorem sd_cmp {op : CmpOp} {r : R2} {f : D → D → Option D} (ho : OpR X (compareOp op) r) (hf : Op2 X.K r f) (ha : SB X J Γ a ma) (hb : SB X J Γ b mb) (hm : behindInMarks op b = false := by first | exact nomark _ | with_unfolding_all rfl) : SD X J Γ (.Compare a [op] [b] pos) (mOp f ma mb) :=
  PE.imp (pe_cmpR ho ha hb hm) fun σ H Q q => op_run hf q
theorem sd_un {op : UnaryOp} {r : V → Hp → VK → Prop} {f : D → Option D} (ho : UnR X (unaryOp op) r) (hf : Op1 X.K r f) (ha : SB X J Γ a ma) : SD X J Γ (.UnaryOp op a pos) (mUn f ma) :=
  PE.imp (pe_un ho ha) fun σ H Q q => by
    obtain ⟨g, sl, S, rl, p⟩ := tD_iff.mp q
    refine chB postD rl p fun g1 H1 d S1 x st1 r1 b1 p1 => ?_
    obtain ⟨z, hz, p3⟩ := ofO_of postD p1
    exact hf J Γ σ sl g1 H1 S1 Q d z x hz r1 b1 p3
end
end Sm
set_option Elab.async false
set_option linter.all false
set_option maxRecDepth 100000
set_option maxHeartbeats 1000000
/-! Sim 3: operations. -/
namespace Sm
open PySem PySem.Spec PyProof.Rows L2

/-! ### data of any depth -/
mutual
def toPy : D → Option PyData
  | .non => some .none
  | .bl b => some (.bool b)
  | .int i => some (.int i)
  | .str x => some (.str x)
  | .lst xs => (toPys xs).map .list
  | .tup xs => (toPys xs).map .tuple
  | _ => none
def toPys : List D → Option (List PyData)
  | [] => some []
  | x :: xs => match toPy x, toPys xs with
    | some p, some ps => some (p :: ps)
    | _, _ => none
end
section
variable {K : PySem.W.Frag} {C : Cfg} {G : Hp} {ρ : List Addr}
mutual
theorem Rep.dp : ∀ (d : D) (v : V) (p : PyData), Rep K C G ρ d v → toPy d = some p → Dp K G v p
  | .non, _, _, h, e => by cases h; simp [toPy] at e; subst e; exact .non
  | .bl b, _, _, h, e => by cases h; simp [toPy] at e; subst e; exact .bl b
  | .int b, _, _, h, e => by cases h; simp [toPy] at e; subst e; exact .int b
  | .str b, _, _, h, e => by cases h; simp [toPy] at e; subst e; exact .str b
  | .lst xs, _, _, h, e => by
    cases h with
    | lst a r =>
      cases q : toPys xs with
      | none => simp [toPy, q] at e
      | some ps => simp [toPy, q] at e; subst e; exact .lst a (Reps.dp xs _ _ r q)
  | .tup xs, _, _, h, e => by
    cases h with
    | tup a r =>
      cases q : toPys xs with
      | none => simp [toPy, q] at e
      | some ps => simp [toPy, q] at e; subst e; exact .tup a (Reps.dp xs _ _ r q)
  | .dK _, _, _, _, e => by simp [toPy] at e
  | .dT _, _, _, _, e => by simp [toPy] at e
  | .ref _, _, _, _, e => by simp [toPy] at e
  | .obj _ _, _, _, _, e => by simp [toPy] at e
theorem Reps.dp : ∀ (ds : List D) (vs : List V) (ps : List PyData), Reps K C G ρ ds vs → toPys ds = some ps → DpAll K G vs ps
  | [], _, _, h, e => by cases h; simp [toPys] at e; subst e; exact .nil
  | x :: xs, _, _, h, e => by
    cases h with
    | cons h1 h2 =>
      unfold toPys at e
      split at e
      · rename_i p ps e1 e2
        cases e
        exact .cons (Rep.dp x _ _ h1 e1) (Reps.dp xs _ _ h2 e2)
      · cases e
end
end
mutual
theorem dpMono {K : PySem.W.Frag} {G H : Hp} (s : Same G H) : ∀ {v : V} {p : PyData}, Dp K G v p → Dp K H v p
  | _, _, .non => .non
  | _, _, .bl b => .bl b
  | _, _, .int b => .int b
  | _, _, .str b => .str b
  | _, _, .lst a r => .lst (sqL_mono s a) (dpsMono s r)
  | _, _, .tup a r => .tup (sqT_mono s a) (dpsMono s r)
theorem dpsMono {K : PySem.W.Frag} {G H : Hp} (s : Same G H) : ∀ {v : List V} {p : List PyData}, DpAll K G v p → DpAll K H v p
  | _, _, .nil => .nil
  | _, _, .cons a r => .cons (dpMono s a) (dpsMono s r)
end
theorem RepB.dp {K : PySem.W.Frag} {J : Jd} {g : Gh} {H : Hp} {d : D} {v : V} {p : PyData} (h : RepB K J g H d v) (hs : Same g.G H) (e : toPy d = some p) : Dp K H v p := by
  rcases h with h | ⟨a, w, rfl, _, _, c⟩
  · exact dpMono hs (Rep.dp _ _ _ h e)
  · cases d <;> first | exact False.elim c | skip
    · obtain ⟨vs, e1, r⟩ := c
      rename_i xs
      cases q : toPys xs with
      | none => simp [toPy, q] at e
      | some ps => simp [toPy, q] at e; subst e; exact .lst (.of e1) (dpsMono hs (Reps.dp _ _ _ r q))
    · simp [toPy] at e
    · simp [toPy] at e

/-! ### equality -/
def dEqv (d e : D) : Option Bool := match toPy d, toPy e with
  | some p, some q => if SeqAt.shaped p = true ∧ SeqAt.shaped q = true then some (PyData.eqv p q) else none
  | _, _ => none
def fEq (d e : D) : Option D := match d, e with
  | .int i, .int j => some (.bl (decide (i = j)))
  | .str i, .str j => some (.bl (decide (i = j)))
  | .bl i, .bl j => some (.bl (decide (i = j)))
  | d, e => (dEqv d e).map .bl
def fNe (d e : D) : Option D := match d, e with
  | .int i, .int j => some (.bl (!decide (i = j)))
  | .str i, .str j => some (.bl (!decide (i = j)))
  | .bl i, .bl j => some (.bl (!decide (i = j)))
  | d, e => (dEqv d e).map fun b => .bl (!b)
def rEqF (K : PySem.W.Frag) : R2 := fun x y H Q => rEq x y H Q ∨ rEqD K x y H Q
def rNeF (K : PySem.W.Frag) : R2 := fun x y H Q => rNe x y H Q ∨ rNeD K x y H Q
section
variable {X : Cx}
theorem o_eq (hu : X.A.units + 64 < cLine) : OpR X (compareOp .Eq) (rEqF X.K) := op_eq.or (op_eqD hu)
theorem o_ne (hu : X.A.units + 64 < cLine) : OpR X (compareOp .NotEq) (rNeF X.K) := op_ne.or (op_neD hu)
end
theorem f_eqD {K : PySem.W.Frag} {J : Jd} {Γ : List Bool} {σ : L2.St} {sl : List (Option D)} {g : Gh} {H : Hp} {S : Sto} {Q : VK} {d e z : D} {x y : V}
    (hz : (dEqv d e).map D.bl = some z) (r : Rel K J.C Γ g sl S σ H) (b1 : RepB K J g H d x) (b2 : RepB K J g H e y) (p : PD K J Γ σ sl g H Q (.ok z S)) : rEqF K x y H Q := by
  unfold dEqv at hz
  split at hz
  · rename_i u v e1 e2
    split at hz
    · rename_i hs
      cases hz
      exact .inr ⟨u, v, b1.dp r.sub e1, b2.dp r.sub e2, hs.1, hs.2, PD.now p r (.bl _)⟩
    · cases hz
  · cases hz
theorem f_neD {K : PySem.W.Frag} {J : Jd} {Γ : List Bool} {σ : L2.St} {sl : List (Option D)} {g : Gh} {H : Hp} {S : Sto} {Q : VK} {d e z : D} {x y : V}
    (hz : ((dEqv d e).map fun b => D.bl (!b)) = some z) (r : Rel K J.C Γ g sl S σ H) (b1 : RepB K J g H d x) (b2 : RepB K J g H e y) (p : PD K J Γ σ sl g H Q (.ok z S)) : rNeF K x y H Q := by
  unfold dEqv at hz
  split at hz
  · rename_i u v e1 e2
    split at hz
    · rename_i hs
      cases hz
      exact .inr ⟨u, v, b1.dp r.sub e1, b2.dp r.sub e2, hs.1, hs.2, PD.now p r (.bl _)⟩
    · cases hz
  · cases hz
theorem f_eq {K : PySem.W.Frag} : Op2 K (rEqF K) fEq := by
  intro J Γ σ sl g H S Q d e z x y hz r b1 b2 p
  unfold fEq at hz
  split at hz
  · cases hz; cases b1.int; cases b2.int
    exact .inl ⟨rfl, by simpa using PD.now p r (.bl _)⟩
  · cases hz; cases b1.str; cases b2.str
    exact .inl ⟨rfl, by simpa using PD.now p r (.bl _)⟩
  · cases hz; cases b1.bl; cases b2.bl
    exact .inl ⟨rfl, by simpa using PD.now p r (.bl _)⟩
  · exact f_eqD hz r b1 b2 p
theorem f_ne {K : PySem.W.Frag} : Op2 K (rNeF K) fNe := by
  intro J Γ σ sl g H S Q d e z x y hz r b1 b2 p
  unfold fNe at hz
  split at hz
  · cases hz; cases b1.int; cases b2.int
    exact .inl ⟨rfl, by simpa using PD.now p r (.bl _)⟩
  · cases hz; cases b1.str; cases b2.str
    exact .inl ⟨rfl, by simpa using PD.now p r (.bl _)⟩
  · cases hz; cases b1.bl; cases b2.bl
    exact .inl ⟨rfl, by simpa using PD.now p r (.bl _)⟩
  · exact f_neD hz r b1 b2 p

/-! ### order of ints -/
def fLt : D → D → Option D | .int i, .int j => some (.bl (decide (i < j))) | _, _ => none
def fLe : D → D → Option D | .int i, .int j => some (.bl (decide (i ≤ j))) | _, _ => none
def fGt : D → D → Option D | .int i, .int j => some (.bl (decide (j < i))) | _, _ => none
def fGe : D → D → Option D | .int i, .int j => some (.bl (decide (j ≤ i))) | _, _ => none
theorem f_int2 {K : PySem.W.Frag} {f : D → D → Option D} {h : Int → Int → V} {k : Int → Int → D} (hf : ∀ d e z, f d e = some z → ∃ i j, d = .int i ∧ e = .int j ∧ z = k i j) (hk : ∀ i j G C ρ, Rep K C G ρ (k i j) (h i j)) : Op2 K (rI0 h) f := by
  intro J Γ σ sl g H S Q d e z x y hz r b1 b2 p
  obtain ⟨i, j, rfl, rfl, rfl⟩ := hf d e z hz
  exact ⟨i, j, b1.int, b2.int, PD.now p r (hk i j _ _ _)⟩
theorem f_lt {K : PySem.W.Frag} : Op2 K (rI0 fun i j => .bl (decide (i < j))) fLt := f_int2 (k := fun i j => .bl (decide (i < j))) (fun d e z h => by unfold fLt at h; split at h <;> cases h; exact ⟨_, _, rfl, rfl, rfl⟩) fun _ _ _ _ _ => .bl _
theorem f_le {K : PySem.W.Frag} : Op2 K (rI0 fun i j => .bl (decide (i ≤ j))) fLe := f_int2 (k := fun i j => .bl (decide (i ≤ j))) (fun d e z h => by unfold fLe at h; split at h <;> cases h; exact ⟨_, _, rfl, rfl, rfl⟩) fun _ _ _ _ _ => .bl _
theorem f_gt {K : PySem.W.Frag} : Op2 K (rI0 fun i j => .bl (decide (j < i))) fGt := f_int2 (k := fun i j => .bl (decide (j < i))) (fun d e z h => by unfold fGt at h; split at h <;> cases h; exact ⟨_, _, rfl, rfl, rfl⟩) fun _ _ _ _ _ => .bl _
theorem f_ge {K : PySem.W.Frag} : Op2 K (rI0 fun i j => .bl (decide (j ≤ i))) fGe := f_int2 (k := fun i j => .bl (decide (j ≤ i))) (fun d e z h => by unfold fGe at h; split at h <;> cases h; exact ⟨_, _, rfl, rfl, rfl⟩) fun _ _ _ _ _ => .bl _

/-! ### arithmetic -/
def fSub : D → D → Option D | .int i, .int j => some (.int (i - j)) | _, _ => none
theorem f_sub {K : PySem.W.Frag} : Op2 K (rI0 fun i j => .int (i - j)) fSub := f_int2 (k := fun i j => .int (i - j)) (fun d e z h => by unfold fSub at h; split at h <;> cases h; exact ⟨_, _, rfl, rfl, rfl⟩) fun _ _ _ _ _ => .int _
theorem f_intC {K : PySem.W.Frag} {f : D → D → Option D} {P : Int → Int → Prop} {h : Int → Int → Int} (hf : ∀ d e z, f d e = some z → ∃ i j, d = .int i ∧ e = .int j ∧ z = .int (h i j) ∧ P i j) : Op2 K (rI P fun i j => .int (h i j)) f := by
  intro J Γ σ sl g H S Q d e z x y hz r b1 b2 p
  obtain ⟨i, j, rfl, rfl, rfl, hp⟩ := hf d e z hz
  exact ⟨i, j, b1.int, b2.int, hp, PD.now p r (.int _)⟩
/-- one factor is small -/
def smallI (i : Int) : Bool := decide (-(2 ^ 64) < i ∧ i < 2 ^ 64)
def fMul : D → D → Option D | .int i, .int j => if smallI i = true ∨ smallI j = true then some (.int (i * j)) else none | _, _ => none
theorem f_mul {K : PySem.W.Frag} : Op2 K (rI CMul fun i j => .int (i * j)) fMul := f_intC fun d e z h => by
  unfold fMul at h
  split at h
  · split at h
    · rename_i hs
      cases h
      refine ⟨_, _, rfl, rfl, rfl, ?_⟩
      rcases hs with hs | hs
      · exact .inl (of_decide_eq_true hs)
      · exact .inr (of_decide_eq_true hs)
    · cases h
  · cases h
def fMod : D → D → Option D | .int i, .int j => if 0 < j then some (.int (i % j)) else none | _, _ => none
theorem f_mod {K : PySem.W.Frag} : Op2 K (rI (fun _ j => 0 < j) fun i j => .int (i % j)) fMod := f_intC fun d e z h => by
  unfold fMod at h
  split at h
  · split at h
    · rename_i hs
      cases h
      exact ⟨_, _, rfl, rfl, rfl, hs⟩
    · cases h
  · cases h
def fFdiv : D → D → Option D | .int i, .int j => if 0 < j ∧ j < 2 ^ 100 then some (.int (i / j)) else none | _, _ => none
def fPow : D → D → Option D | .int i, .int j => if 0 ≤ j ∧ j ≤ 100 ∧ i.natAbs < 2 ^ 64 then some (.int (i ^ j.toNat)) else none | _, _ => none
theorem f_pow {K : PySem.W.Frag} : Op2 K (rI CPow fun i j => .int (i ^ j.toNat)) fPow := f_intC fun d e z h => by
  unfold fPow at h
  split at h
  · split at h
    · rename_i hs
      cases h
      exact ⟨_, _, rfl, rfl, rfl, hs.1, by omega, hs.2.2⟩
    · cases h
  · cases h
theorem log2_lt {j : Int} (h0 : 0 < j) (h : j < 2 ^ 100) : j.natAbs.log2 < 9000 := by
  have h1 : j.natAbs < 2 ^ 100 := by omega
  have h2 : j.natAbs.log2 < 100 := (Nat.log2_lt (by omega)).mpr h1
  omega
theorem f_fdiv {K : PySem.W.Frag} : Op2 K (rI CDivW fun i j => .int (i / j)) fFdiv := f_intC fun d e z h => by
  unfold fFdiv at h
  split at h
  · split at h
    · rename_i hs
      cases h
      exact ⟨_, _, rfl, rfl, rfl, hs.1, log2_lt hs.1 hs.2⟩
    · cases h
  · cases h
/-! + of ints, texts, lists, tuples -/
def fAdd : D → D → Option D
  | .int i, .int j => some (.int (i + j))
  | .str x, .str y => if x.length + y.length ≤ sizeLine then some (.str (x ++ y)) else none
  | .lst xs, .lst ys => if xs.length + ys.length ≤ sizeLine then some (.lst (xs ++ ys)) else none
  | .tup xs, .tup ys => if xs.length + ys.length ≤ sizeLine then some (.tup (xs ++ ys)) else none
  | _, _ => none
def rCatL (K : PySem.W.Frag) : R2 := fun x y H Q => ∃ l b xs zs, x = .ref l ∧ y = .ref b ∧ SqL K H l xs ∧ SqL K H b zs ∧ xs.length + zs.length ≤ sizeLine ∧ ∀ p, H p = none → Q (.ref p) (upd H p (.lst (xs ++ zs)))
theorem op_catL {X : Cx} : OpR X (binaryOp .Add) (rCatL X.K) := by
  intro pins s σ H x y v u Q I rx ry h
  obtain ⟨l, b, xs, zs, rfl, rfl, hH, hB, hz, q⟩ := h
  cases rx
  cases ry
  obtain ⟨its, r, ⟨⟨cls, dd, data, sl⟩, n, ho, hc, hdn, hd⟩, _⟩ := I.list hH
  obtain ⟨its2, r2, ⟨⟨cls2, dd2, data2, sl2⟩, n2, ho2, hc2, hdn2, hd2⟩, _⟩ := I.list hB
  simp only at hc hd hc2 hd2
  subst hc hd hc2 hd2
  have e : its.toArray ++ its2.toArray = (its ++ its2).toArray := by simp
  have l1 := r.length
  have l2 := r2.length
  refine concat_meets ⟨_, ho, rfl⟩ ⟨_, ho2, rfl⟩ noFill_list_add seq_list_add PySem.F.slot_list_add PySem.F.entry_list_add (PySem.F.args_list_add_2 _ _) (list_addW l b its.toArray its2.toArray n n2 dd dd2 sl sl2 (by simp; omega)) ⟨ho, ho2, ?_⟩
  rw [e]
  exact ⟨.ref _, _, I.lnew (t' := s.toks) (r.append r2) (by rw [List.length_append]; exact hz), rfl, q _ I.fresh⟩
def rAddF (K : PySem.W.Frag) : R2 := fun x y H Q => (rI0 (fun i j => .int (i + j)) x y H Q ∨ (∃ i j, x = .str i ∧ y = .str j ∧ i.length + j.length ≤ sizeLine ∧ Q (.str (i ++ j)) H)) ∨ (rCatL K x y H Q ∨ rCatA K x y H Q)
theorem o_add {X : Cx} : OpR X (binaryOp .Add) (rAddF X.K) := (op_add.or op_add_str).or (op_catL.or op_catA)
theorem f_add {K : PySem.W.Frag} : Op2 K (rAddF K) fAdd := by
  intro J Γ σ sl g H S Q d e z x y hz r b1 b2 p
  unfold fAdd at hz
  split at hz
  · cases hz
    exact .inl (.inl ⟨_, _, b1.int, b2.int, PD.now p r (.int _)⟩)
  · split at hz
    · cases hz
      exact .inl (.inr ⟨_, _, b1.str, b2.str, by assumption, PD.now p r (.str _)⟩)
    · cases hz
  · split at hz
    · rename_i hs
      cases hz
      obtain ⟨p1, v1, rfl, s1, r1⟩ := b1.lst r.sub
      obtain ⟨p2, v2, rfl, s2, r2⟩ := b2.lst r.sub
      exact .inr (.inl ⟨p1, p2, v1, v2, rfl, rfl, s1, s2, by rw [← r1.length, ← r2.length]; exact hs, fun q hq => p.newL r hq (r1.append r2)⟩)
    · cases hz
  · split at hz
    · rename_i hs
      cases hz
      rcases b1 with b1 | ⟨_, _, _, _, _, z⟩
      · rcases b2 with b2 | ⟨_, _, _, _, _, z⟩
        · have b1' := b1
          have b2' := b2
          cases b1 with
          | @tup a1 vs1 _ s1 r1 =>
          cases b2 with
          | @tup a2 vs2 _ s2 r2 =>
          refine .inr (.inr ⟨_, _, _, _, rfl, rfl, sqT_mono r.sub s1, sqT_mono r.sub s2, by rw [← r1.length, ← r2.length]; exact hs, fun e => ?_, fun e1 e2 => ?_, fun _ _ q hq => p.newT r hq (r1.append r2)⟩)
          · subst e
            cases r1
            exact PD.now p r b2'
          · subst e2
            cases r2
            rw [List.append_nil] at p
            exact PD.now p r b1'
        · exact False.elim z
      · exact False.elim z
    · cases hz
  · cases hz

/-! ### items -/
theorem Reps.atI {K : PySem.W.Frag} {C : Cfg} {G : Hp} {ρ : List Addr} {ds : List D} {vs : List V} {i : Int} {d : D} (r : Reps K C G ρ ds vs) (e : atI ds i = some d) : ∃ v, L2.atI vs i = some v ∧ Rep K C G ρ d v := by
  unfold L2.atI at e ⊢
  rw [← r.length]
  cases q : ixN ds.length i with
  | none => rw [q] at e; cases e
  | some j =>
    rw [q] at e
    exact Reps.get r e
def fIx (d e : D) : Option D := match d, e with
  | .lst xs, .int i => atI xs i
  | .tup xs, .int i => atI xs i
  | .str z, .int i => if z.length ≤ sizeLine then (atI z.cps.toList i).map fun c => .str ⟨#[c]⟩ else none
  | _, _ => none
theorem f_ix {K : PySem.W.Frag} : Op2 K (rIx K) fIx := by
  intro J Γ σ sl g H S Q d e z x y hz r b1 b2 p
  unfold fIx at hz
  split at hz
  · obtain ⟨p1, v1, rfl, s1, r1⟩ := b1.lst r.sub
    obtain ⟨v, h1, h2⟩ := r1.atI hz
    exact .inl ⟨p1, v1, _, v, rfl, b2.int, s1, h1, PD.now p r h2⟩
  · obtain ⟨p1, v1, rfl, s1, r1⟩ := b1.tup r.sub
    obtain ⟨v, h1, h2⟩ := r1.atI hz
    exact .inr (.inl ⟨p1, v1, _, v, rfl, b2.int, s1, h1, PD.now p r h2⟩)
  · split at hz
    · obtain ⟨c, e, rfl⟩ := Option.map_eq_some_iff.mp hz
      exact .inr (.inr ⟨_, _, c, b1.str, b2.int, by assumption, e, PD.now p r (.str _)⟩)
    · cases hz
  · cases hz
section
variable {X : Cx} {J : Jd} {Γ : List Bool} {a b c e : Expr} {ma mb mc : Mx D} {pos : Pos}
theorem sd_ix (ha : SB X J Γ a ma) (hb : SB X J Γ b mb) (hs : PlainIx b := by exact fun _ _ => rfl) : SD X J Γ (.Subscript a b pos) (mOp fIx ma mb) :=
  PE.imp (pe_ix ix_seq ha hb hs) fun σ H Q q => op_run f_ix q
end

/-! ### slices -/
def cutD (xs : List D) (lo hi : Option Int) : List D := (xs.drop (HT.sIx xs.length 0 lo)).take (HT.sIx xs.length xs.length hi - HT.sIx xs.length 0 lo)
theorem Reps.cut {K : PySem.W.Frag} {C : Cfg} {G : Hp} {ρ : List Addr} {ds : List D} {vs : List V} (r : Reps K C G ρ ds vs) (lo hi : Option Int) : Reps K C G ρ (cutD ds lo hi) (cutV vs lo hi) := by
  unfold cutD cutV
  rw [← r.length]
  exact (r.drop _).take _
def fSl (d : D) (lo hi : Option Int) : Option D := match d with
  | .lst xs => some (.lst (cutD xs lo hi))
  | .tup xs => some (.tup (cutD xs lo hi))
  | .str z => if z.length ≤ sizeLine then some (.str (cutS z lo hi)) else none
  | _ => none
def rSlF (K : PySem.W.Frag) : V → Option Int → Option Int → Hp → VK → Prop := fun x lo hi H Q => rSlL K x lo hi H Q ∨ (rSlA K x lo hi H Q ∨ rSlS x lo hi H Q)
theorem o_sl {X : Cx} : SlR X (rSlF X.K) := sl_list.or (sl_tupA.or sl_str)
theorem cut_all {xs : List D} {lo hi : Option Int} (h : HT.sIx xs.length 0 lo = 0 ∧ HT.sIx xs.length xs.length hi = xs.length) : cutD xs lo hi = xs := by
  unfold cutD
  rw [h.1, h.2]
  simp
theorem f_sl {K : PySem.W.Frag} {J : Jd} {Γ : List Bool} {σ : L2.St} {sl : List (Option D)} {g : Gh} {H : Hp} {S : Sto} {Q : VK} {d z : D} {x : V} {lo hi : Option Int} (hz : fSl d lo hi = some z) (r : Rel K J.C Γ g sl S σ H)
    (b : RepB K J g H d x) (p : PD K J Γ σ sl g H Q (.ok z S)) : rSlF K x lo hi H Q := by
  unfold fSl at hz
  split at hz
  · cases hz
    obtain ⟨p1, v1, rfl, s1, r1⟩ := b.lst r.sub
    exact .inl ⟨p1, v1, rfl, s1, fun q hq => p.newL r hq (r1.cut _ _)⟩
  · cases hz
    rcases b with b | ⟨_, _, _, _, _, z⟩
    · have b' := b
      cases b with
      | @tup a1 vs1 _ s1 r1 =>
      refine .inr (.inl ⟨_, _, rfl, sqT_mono r.sub s1, fun e => ?_, fun _ q hq => p.newT r hq (r1.cut _ _)⟩)
      rw [← r1.length] at e
      rw [cut_all e] at p
      exact PD.now p r b'
    · exact False.elim z
  · split at hz
    · cases hz
      exact .inr (.inr ⟨_, b.str, by assumption, PD.now p r (.str _)⟩)
    · cases hz
  · cases hz
/-- a part of a slice -/
def mPart (o : Option (Mx D)) : Mx (Option Int) := match o with
  | none => pureX none
  | some m => bindX m fun d => match d with
    | .int i => pureX (some i)
    | _ => ofO none
def mSl (ma : Mx D) (lo hi : Option (Mx D)) : Mx D := bindX ma fun d => bindX (mPart lo) fun l => bindX (mPart hi) fun h => ofO (fSl d l h)
/-- the parts of a slice: none, or an expression -/
inductive SP (X : Cx) (J : Jd) (Γ : List Bool) : Option Expr → Option (Mx D) → Prop
  | none : SP X J Γ none none
  | some {e : Expr} {m : Mx D} (h : SD X J Γ e m) : SP X J Γ (some e) (some m)
def tP (K : PySem.W.Frag) (J : Jd) (Γ : List Bool) : Option (Mx D) → TO
  | none => tNoPart
  | some m => tPart (tD K J Γ m)
theorem SP.po {X : Cx} {J : Jd} {Γ : List Bool} {o : Option Expr} {m : Option (Mx D)} (h : SP X J Γ o m) : PO X o (tP X.K J Γ m) := by
  cases h with
  | none => exact po_none
  | some h => exact po_some h
theorem chP {K : PySem.W.Frag} {J : Jd} {Γ : List Bool} {σ : L2.St} {sl : List (Option D)} {g : Gh} {H : Hp} {S : Sto} {β : Type} {P : Gh → Hp → Rx β → Prop} {o : Option (Mx D)} {f : Option Int → Mx β} {R : Option Int → Hp → Prop} (hP : Post K J Γ σ sl P)
    (r : Rel K J.C Γ g sl S σ H) (h : P g H (bindX (mPart o) f sl S))
    (k : ∀ g1 H1 d S1, Stp (cE J.lv) g H g1 H1 → Rel K J.C Γ g1 sl S1 σ H1 → P g1 H1 (f d sl S1) → R d H1) : tP K J Γ o σ H R := by
  cases o with
  | none => exact k g H none S Stp.refl r h
  | some m =>
    have h' : P g H (bindX m (fun d => bindX (match d with | .int i => pureX (some i) | _ => ofO none) f) sl S) := by
      unfold mPart at h
      have e : bindX (bindX m fun d => match d with | .int i => pureX (some i) | _ => ofO none) f sl S = bindX m (fun d => bindX (match d with | .int i => pureX (some i) | _ => ofO none) f) sl S := by
        unfold bindX
        cases m sl S <;> rfl
      rw [← e]; exact h
    refine chD hP r h' fun g1 H1 d S1 x st r1 b p => ?_
    cases d with
    | int i => cases b; exact ⟨i, rfl, k g1 H1 (some i) S1 st r1 p⟩
    | _ => exact (hP.stuck _ _ p).elim
theorem sd_sl {X : Cx} {J : Jd} {Γ : List Bool} {a : Expr} {ma : Mx D} {lo hi : Option Expr} {ml mh : Option (Mx D)} {p2 pos : Pos} (ha : SB X J Γ a ma) (hl : SP X J Γ lo ml) (hh : SP X J Γ hi mh) : SD X J Γ (.Subscript a (.Slice lo hi none p2) pos) (mSl ma ml mh) :=
  PE.imp (pe_slice o_sl ha hl.po hh.po) fun σ H Q q => by
    obtain ⟨g, sl, S, rl, p⟩ := tD_iff.mp q
    refine chB postD rl p fun g1 H1 d S1 x st1 r1 b1 p1 => ?_
    refine chP postD r1 p1 fun g2 H2 l S2 st2 r2 p2 => ?_
    refine chP postD r2 p2 fun g3 H3 h S3 st3 r3 p3 => ?_
    obtain ⟨z, hz, p4⟩ := ofO_of postD p3
    exact f_sl hz r3 ((b1.step st2).step st3) p4
end Sm
set_option Elab.async false
set_option linter.all false
set_option maxRecDepth 100000
set_option maxHeartbeats 1000000
/-! Sim 4: tests, truth, displays, built-in calls, methods, comprehensions. -/
namespace Sm
open PySem PySem.Spec PyProof.Rows L2

/-! ### is -/
theorem is_bool_gen {M : Model} {A : Around} {E : Value → Shared → Prop} {s : Shared} {Q : Value → Shared → Prop} {x : V} {v : Value} {b : Bool} (rx : RelV x v) (h : Q (.bool (v == .bool b)) s) : wpAny M A (compareOp .Is v (.bool b)) Q E s := by
  cases x <;> first
    | (cases rx; exact wpAny_pure h)
    | (obtain ⟨t, rfl⟩ := rx; exact wpAny_pure h)
theorem isnot_bool_gen {M : Model} {A : Around} {E : Value → Shared → Prop} {s : Shared} {Q : Value → Shared → Prop} {x : V} {v : Value} {b : Bool} (rx : RelV x v) (h : Q (.bool (!(v == .bool b))) s) : wpAny M A (compareOp .IsNot v (.bool b)) Q E s := by
  cases x <;> first
    | (cases rx; exact wpAny_pure h)
    | (obtain ⟨t, rfl⟩ := rx; exact wpAny_pure h)
def isV : V → V → Bool
  | x, .non => decide (x = .non)
  | x, .bl b => decide (x = .bl b)
  | _, _ => false
def rIs (neg : Bool) : R2 := fun x y H Q => (y = .non ∨ ∃ b, y = .bl b) ∧ Q (.bl (xor neg (decide (x = y)))) H
section
variable {X : Cx}
theorem relV_bool {x : V} {v : Value} {b : Bool} (r : RelV x v) : (v == Value.bool b) = decide (x = .bl b) := by
  cases x <;> first
    | (cases r; first | rfl | (rename_i c; cases b <;> cases c <;> decide))
    | (obtain ⟨t, rfl⟩ := r; rfl)
theorem o_is : OpR X (compareOp .Is) (rIs false) := by
  intro pins s σ H x y v u Q I rx ry h
  obtain ⟨hy | ⟨b, rfl⟩, q⟩ := h
  · subst hy
    exact op_isN pins s σ H x _ v u Q I rx ry ⟨rfl, by simpa using q⟩
  · cases (show u = Value.bool b from ry)
    refine is_bool_gen rx ⟨.bl _, H, I, ?_, q⟩
    show Value.bool _ = Value.bool _
    rw [relV_bool rx, Bool.false_xor]
theorem o_isnot : OpR X (compareOp .IsNot) (rIs true) := by
  intro pins s σ H x y v u Q I rx ry h
  obtain ⟨hy | ⟨b, rfl⟩, q⟩ := h
  · subst hy
    exact op_notN pins s σ H x _ v u Q I rx ry ⟨rfl, by simpa using q⟩
  · cases (show u = Value.bool b from ry)
    refine isnot_bool_gen rx ⟨.bl _, H, I, ?_, q⟩
    show Value.bool _ = Value.bool _
    rw [relV_bool rx, Bool.true_xor]
end
def isD : D → D → Option Bool
  | .non, .non => some true
  | _, .non => some false
  | .bl a, .bl b => some (a == b)
  | _, .bl _ => some false
  | _, _ => none
def fIs (d e : D) : Option D := (isD d e).map .bl
def fIsNot (d e : D) : Option D := (isD d e).map fun b => .bl (!b)
def Shp : D → V → Prop
  | .non, v => v = .non
  | .bl b, v => v = .bl b
  | .int i, v => v = .int i
  | .str x, v => v = .str x
  | _, v => ∃ a, v = .ref a
theorem RepB.shape {K : PySem.W.Frag} {J : Jd} {g : Gh} {H : Hp} {d : D} {v : V} (h : RepB K J g H d v) : Shp d v := by
  rcases h with h | ⟨p, w, rfl, _, _, c⟩
  · cases h <;> first | rfl | exact ⟨_, rfl⟩
  · cases d <;> first | exact False.elim c | exact ⟨_, rfl⟩
theorem isD_of {K : PySem.W.Frag} {J : Jd} {g : Gh} {H : Hp} {d e : D} {x y : V} {b : Bool} (h : isD d e = some b) (b1 : RepB K J g H d x) (b2 : RepB K J g H e y) : (y = .non ∨ ∃ b, y = .bl b) ∧ decide (x = y) = b := by
  have s1 := b1.shape
  have s2 := b2.shape
  clear b1 b2
  cases e with
  | non =>
    have s2 : y = .non := s2
    subst s2
    refine ⟨.inl rfl, ?_⟩
    cases d <;> (cases h; first | (obtain ⟨a, rfl⟩ := s1; rfl) | (cases s1; rfl))
  | bl c =>
    have s2 : y = .bl c := s2
    subst s2
    refine ⟨.inr ⟨_, rfl⟩, ?_⟩
    cases d <;> (cases h; first | (obtain ⟨a, rfl⟩ := s1; rfl) | (cases s1; first | rfl | (rename_i a; cases a <;> cases c <;> decide)))
  | _ => cases d <;> cases h
theorem f_is {K : PySem.W.Frag} : Op2 K (rIs false) fIs := by
  intro J Γ σ sl g H S Q d e z x y hz r b1 b2 p
  obtain ⟨b, hb, rfl⟩ := Option.map_eq_some_iff.mp hz
  obtain ⟨h1, h2⟩ := isD_of hb b1 b2
  exact ⟨h1, by rw [h2, Bool.false_xor]; exact PD.now p r (.bl _)⟩
theorem f_isnot {K : PySem.W.Frag} : Op2 K (rIs true) fIsNot := by
  intro J Γ σ sl g H S Q d e z x y hz r b1 b2 p
  obtain ⟨b, hb, rfl⟩ := Option.map_eq_some_iff.mp hz
  obtain ⟨h1, h2⟩ := isD_of hb b1 b2
  exact ⟨h1, by rw [h2, Bool.true_xor]; exact PD.now p r (.bl _)⟩

/-! ### truth -/
def truth : D → Option Bool
  | .non => some false
  | .bl b => some b
  | .int i => some (i != 0)
  | .str x => if x.length ≤ sizeLine then some ((x.length : Int) != 0) else none
  | .lst xs => some (!xs.isEmpty)
  | .tup xs => some (!xs.isEmpty)
  | .dK xs => some (!xs.isEmpty)
  | _ => none
theorem reps_empty {K : PySem.W.Frag} {C : Cfg} {G : Hp} {ρ : List Addr} {ds : List D} {vs : List V} (r : Reps K C G ρ ds vs) : ds.isEmpty = vs.isEmpty := by cases r <;> rfl
theorem repK_empty {K : PySem.W.Frag} {C : Cfg} {G : Hp} {ρ : List Addr} {ds : List (Key × D)} {vs : List (Key × V)} (r : RepK K C G ρ ds vs) : ds.isEmpty = vs.isEmpty := by cases r <;> rfl
theorem truth_of {K : PySem.W.Frag} {J : Jd} {g : Gh} {H : Hp} {d : D} {x : V} {b : Bool} (h : truth d = some b) (hs : Same g.G H) (r : RepB K J g H d x) : TruV K x H b := by
  cases d with
  | non => cases h; cases r.non; rfl
  | bl i => cases h; cases r.bl; rfl
  | int i => cases h; cases r.int; rfl
  | str i =>
    have h' : (if i.length ≤ sizeLine then some ((i.length : Int) != 0) else none) = some b := h
    by_cases c : i.length ≤ sizeLine
    · rw [if_pos c] at h'
      cases h'; cases r.str; exact ⟨c, rfl⟩
    · rw [if_neg c] at h'
      cases h'
  | lst ds =>
    cases h
    obtain ⟨p, vs, rfl, s1, r1⟩ := r.lst hs
    exact .inl ⟨vs, s1, by rw [reps_empty r1]⟩
  | tup ds =>
    cases h
    obtain ⟨p, vs, rfl, s1, r1⟩ := r.tup hs
    exact .inr (.inl ⟨vs, s1, by rw [reps_empty r1]⟩)
  | dK ds =>
    cases h
    obtain ⟨p, vs, rfl, s1, r1⟩ := r.dK hs
    exact .inr (.inr ⟨vs, s1, by rw [repK_empty r1]⟩)
  | _ => cases h
def asBl : D → Option Bool
  | .bl b => some b
  | _ => none
def mTst (m : Mx D) : Mx Bool := bindX m fun d => ofO (asBl d)
def mTru (m : Mx D) : Mx Bool := bindX m fun d => ofO (truth d)
def mAndT (a b : Mx Bool) : Mx Bool := bindX a fun x => if x = true then b else pureX false
def mOrT (a b : Mx Bool) : Mx Bool := bindX a fun x => if x = true then pureX true else b
def mNotT (a : Mx Bool) : Mx Bool := bindX a fun x => pureX (!x)
/-- and, or as values -/
def mAnd (a b : Mx D) : Mx D := bindX a fun x => bindX (ofO (truth x)) fun k => if k = true then b else pureX x
def mOr (a b : Mx D) : Mx D := bindX a fun x => bindX (ofO (truth x)) fun k => if k = true then pureX x else b
def mNot (a : Mx D) : Mx D := bindX a fun x => ofO ((truth x).map fun k => .bl (!k))
def mIfE (c : Mx Bool) (a b : Mx D) : Mx D := bindX c fun k => if k = true then a else b
section
variable {X : Cx} {J : Jd} {Γ : List Bool} {a b c e : Expr} {rest : List Expr} {ma mb mc : Mx D} {ta tb : Mx Bool} {pos : Pos}
theorem PT'.now {K : PySem.W.Frag} {σ : L2.St} {sl : List (Option D)} {g : Gh} {H : Hp} {S : Sto} {Q : Bool → Hp → Prop} {b : Bool} (h : PT' K J Γ σ sl g H Q (.ok b S)) (r : Rel K J.C Γ g sl S σ H) : Q b H := h g H Stp.refl r
theorem st_cmp {op : CmpOp} {r : R2} {f : D → D → Option D} (ho : OpR X (compareOp op) r) (hf : Op2 X.K r f) (ha : SB X J Γ a ma) (hb : SB X J Γ b mb) (hm : behindInMarks op b = false := by first | exact nomark _ | with_unfolding_all rfl) : ST X J Γ (.Compare a [op] [b] pos) (mTst (mOp f ma mb)) :=
  PT.imp (pt_cmpR ho ha hb hm) fun σ H Q q => by
    obtain ⟨g, sl, S, rl, p⟩ := tDb_iff.mp q
    refine op_run hf (tD_iff.mpr ⟨g, sl, S, rl, ?_⟩)
    unfold mTst bindX at p
    cases e : mOp f ma mb sl S with
    | ok d S' =>
      rw [e] at p
      obtain ⟨k, hk, p⟩ := ofO_of postT p
      cases d <;> first | cases hk | skip
      exact fun g' H' v st rl' rp => by cases rp; exact ⟨_, rfl, p g' H' st rl'⟩
    | err x S' => rw [e] at p; exact p
    | stuck => rw [e] at p; exact p
theorem st_tru (ha : SB X J Γ a ma) (he : ∀ whole, isTrue a X.env whole = (do let v ← whole; standAt a.pos; holding [v] (truthy v)) := by exact fun _ => rfl) : ST X J Γ a (mTru ma) :=
  PT.imp (pt_truth ha he) fun σ H Q q => by
    obtain ⟨g, sl, S, rl, p⟩ := tDb_iff.mp q
    refine chB postT rl p fun g1 H1 d S1 x st1 r1 b1 p1 => ?_
    obtain ⟨k, hk, p2⟩ := ofO_of postT p1
    exact ⟨k, truth_of hk r1.sub b1, p2.now r1⟩
/-- of and, or: whatever the whole is -/
def SW (X : Cx) (J : Jd) (Γ : List Bool) (e : Expr) (m : Mx Bool) : Prop := PW X e (tDb X.K J Γ m)
theorem PW.imp {t t' : TT} (h : PW X e t) (k : ∀ σ H Q, t' σ H Q → t σ H Q) : PW X e t' := ⟨fun wh pins s σ H Q I q => h.run wh pins s σ H Q I (k σ H Q q)⟩
theorem sw_and1 (h : ST X J Γ a ta) : SW X J Γ (.BoolOp .And [a] pos) ta := pw_and1 h
theorem sw_or1 (h : ST X J Γ a ta) : SW X J Γ (.BoolOp .Or [a] pos) ta := pw_or1 h
theorem sw_and (h : ST X J Γ a ta) (hb : SW X J Γ (.BoolOp .And (b :: rest) pos) tb) : SW X J Γ (.BoolOp .And (a :: b :: rest) pos) (mAndT ta tb) :=
  PW.imp (pw_and h hb) fun σ H Q q => by
    obtain ⟨g, sl, S, rl, p⟩ := tDb_iff.mp q
    refine chT postT rl p fun g1 H1 d S1 st1 r1 p1 => ?_
    cases d with
    | true => exact tDb_iff.mpr ⟨g1, sl, S1, r1, p1⟩
    | false => exact PT'.now p1 r1
theorem sw_or (h : ST X J Γ a ta) (hb : SW X J Γ (.BoolOp .Or (b :: rest) pos) tb) : SW X J Γ (.BoolOp .Or (a :: b :: rest) pos) (mOrT ta tb) :=
  PW.imp (pw_or h hb) fun σ H Q q => by
    obtain ⟨g, sl, S, rl, p⟩ := tDb_iff.mp q
    refine chT postT rl p fun g1 H1 d S1 st1 r1 p1 => ?_
    cases d with
    | false => exact tDb_iff.mpr ⟨g1, sl, S1, r1, p1⟩
    | true => exact PT'.now p1 r1
theorem st_w (h : SW X J Γ e ta) : ST X J Γ e ta := L2.PW.pt h
theorem st_not (h : ST X J Γ a ta) : ST X J Γ (.UnaryOp .Not a pos) (mNotT ta) :=
  PT.imp (pt_not h) fun σ H Q q => by
    obtain ⟨g, sl, S, rl, p⟩ := tDb_iff.mp q
    exact chT postT rl p fun g1 H1 d S1 st1 r1 p1 => PT'.now p1 r1
theorem sd_and1 (h : SD X J Γ a ma) : SD X J Γ (.BoolOp .And [a] pos) ma := pe_one h
theorem sd_or1 (h : SD X J Γ a ma) : SD X J Γ (.BoolOp .Or [a] pos) ma := pe_one h
theorem sd_and (h : SD X J Γ a ma) (hb : SD X J Γ (.BoolOp .And (b :: rest) pos) mb) : SD X J Γ (.BoolOp .And (a :: b :: rest) pos) (mAnd ma mb) :=
  PE.imp (pe_andT h hb) fun σ H Q q => by
    obtain ⟨g, sl, S, rl, p⟩ := tD_iff.mp q
    refine chD postD rl p fun g1 H1 d S1 x st1 r1 b1 p1 => ?_
    have p1' : PD X.K J Γ σ sl g1 H1 Q (bindX (ofO (truth d)) (fun k => if k = true then mb else pureX d) sl S1) := p1
    cases e : truth d with
    | none => rw [e] at p1'; exact False.elim p1'
    | some k =>
      rw [e] at p1'
      refine ⟨k, truth_of e r1.sub (.inl b1), ?_⟩
      cases k with
      | true => exact tD_iff.mpr ⟨g1, sl, S1, r1, p1'⟩
      | false => exact PD.now p1' r1 b1
theorem sd_or (h : SD X J Γ a ma) (hb : SD X J Γ (.BoolOp .Or (b :: rest) pos) mb) : SD X J Γ (.BoolOp .Or (a :: b :: rest) pos) (mOr ma mb) :=
  PE.imp (pe_orT h hb) fun σ H Q q => by
    obtain ⟨g, sl, S, rl, p⟩ := tD_iff.mp q
    refine chD postD rl p fun g1 H1 d S1 x st1 r1 b1 p1 => ?_
    have p1' : PD X.K J Γ σ sl g1 H1 Q (bindX (ofO (truth d)) (fun k => if k = true then pureX d else mb) sl S1) := p1
    cases e : truth d with
    | none => rw [e] at p1'; exact False.elim p1'
    | some k =>
      rw [e] at p1'
      refine ⟨k, truth_of e r1.sub (.inl b1), ?_⟩
      cases k with
      | false => exact tD_iff.mpr ⟨g1, sl, S1, r1, p1'⟩
      | true => exact PD.now p1' r1 b1
theorem sd_not (h : SB X J Γ a ma) : SD X J Γ (.UnaryOp .Not a pos) (mNot ma) :=
  PE.imp (pe_notT h) fun σ H Q q => by
    obtain ⟨g, sl, S, rl, p⟩ := tD_iff.mp q
    refine chB postD rl p fun g1 H1 d S1 x st1 r1 b1 p1 => ?_
    obtain ⟨z, hz, p2⟩ := ofO_of postD p1
    obtain ⟨k, e, rfl⟩ := Option.map_eq_some_iff.mp hz
    exact ⟨k, truth_of e r1.sub b1, PD.now p2 r1 (.bl _)⟩
theorem sd_ife (hc : ST X J Γ c ta) (ha : SD X J Γ a ma) (hb : SD X J Γ b mb) : SD X J Γ (.IfExp c a b pos) (mIfE ta ma mb) :=
  PE.imp (pe_ifExp hc ha hb) fun σ H Q q => by
    obtain ⟨g, sl, S, rl, p⟩ := tD_iff.mp q
    refine chT postD rl p fun g1 H1 d S1 st1 r1 p1 => ?_
    cases d with
    | true => exact tD_iff.mpr ⟨g1, sl, S1, r1, p1⟩
    | false => exact tD_iff.mpr ⟨g1, sl, S1, r1, p1⟩
theorem sd_lv {J' : Jd} (hC : J'.C = J.C) (hW : J'.W = J.W) (hl : J'.lv = false) (h : SD X J' Γ e ma) : SD X J Γ e ma := by
  obtain ⟨C, W, lv⟩ := J
  obtain ⟨C', W', lv'⟩ := J'
  cases hC; cases hW; cases hl
  exact PE.imp h fun σ H Q q => by
    obtain ⟨g, sl, S, rl, p⟩ := tD_iff.mp q
    refine tD_iff.mpr ⟨g, sl, S, rl, ?_⟩
    cases e : ma sl S with
    | ok d S' => rw [e] at p; exact fun g' H' v st r b => p g' H' v st.toA r b
    | err x S' => rw [e] at p; exact fun g' H' cls dx st r b => p g' H' cls dx st.toA r b
    | stuck => rw [e] at p; exact p

/-! ### arguments, displays -/
def mNil : Mx (List D) := pureX []
def mCons (m : Mx D) (ms : Mx (List D)) : Mx (List D) := bindX m fun d => bindX ms fun ds => pureX (d :: ds)
theorem sds_nil : SDs X J Γ [] mNil := PA.imp pa_nil fun σ H Q q => by
  obtain ⟨g, sl, S, rl, p⟩ := tDs_iff.mp q
  exact p g H [] Stp.refl rl .nil
theorem sds_cons {es : List Expr} {ms : Mx (List D)} (ha : SD X J Γ e ma) (hr : SDs X J Γ es ms) (hs : starEach (e :: es) X.env = (false, eval e X.env) :: starEach es X.env := by rfl) : SDs X J Γ (e :: es) (mCons ma ms) :=
  PA.imp (pa_cons ha hr hs) fun σ H Q q => by
    obtain ⟨g, sl, S, rl, p⟩ := tDs_iff.mp q
    refine chD postDs rl p fun g1 H1 d S1 x st1 r1 b1 p1 => ?_
    refine chDs postDs r1 p1 fun g2 H2 ds S2 xs st2 r2 b2 p2 => ?_
    exact p2 g2 H2 (x :: xs) Stp.refl r2 (.cons (b1.step st2) b2)
def mLst (m : Mx (List D)) : Mx D := bindX m fun ds => if ds.length ≤ sizeLine then pureX (.lst ds) else ofO none
def mTup (m : Mx (List D)) : Mx D := bindX m fun ds => if ds.length ≤ sizeLine then pureX (.tup ds) else ofO none
theorem sd_tup {es : List Expr} {x1 : Nat} {ms : Mx (List D)} (h : SDs X J Γ es ms) : SD X J Γ (.Tuple es x1 pos) (mTup ms) :=
  PE.imp (pe_tup h) fun σ H Q q => by
    obtain ⟨g, sl, S, rl, p⟩ := tD_iff.mp q
    refine chDs postD rl p fun g1 H1 ds S1 xs st1 r1 b1 p1 => ?_
    by_cases hs : ds.length ≤ sizeLine
    · rw [if_pos hs] at p1
      exact ⟨by rw [← b1.length]; exact hs, fun q hq => PD.newT p1 r1 hq b1⟩
    · rw [if_neg hs] at p1
      exact False.elim p1
theorem sd_lst {es : List Expr} {ms : Mx (List D)} (h : SDs X J Γ es ms) : SD X J Γ (.List es pos) (mLst ms) :=
  PE.imp (pe_lst h) fun σ H Q q => by
    obtain ⟨g, sl, S, rl, p⟩ := tD_iff.mp q
    refine chDs postD rl p fun g1 H1 ds S1 xs st1 r1 b1 p1 => ?_
    by_cases hs : ds.length ≤ sizeLine
    · rw [if_pos hs] at p1
      exact ⟨by rw [← b1.length]; exact hs, fun q hq => PD.newL p1 r1 hq b1⟩
    · rw [if_neg hs] at p1
      exact False.elim p1
theorem PN.weak {K : PySem.W.Frag} {σ : L2.St} {sl : List (Option D)} {g g1 : Gh} {H H1 : Hp} {Q : VK} {r : Rx D} (st : Stp (cE J.lv) g H g1 H1) (h : PN K J Γ σ sl g H Q r) : PN K J Γ σ sl g1 H1 Q r := PN.step st h
theorem sn_lst {es : List Expr} {ms : Mx (List D)} (h : SDs X J Γ es ms) : SN X J Γ (.List es pos) (mLst ms) :=
  PE.imp (pe_lst h) fun σ H Q q => by
    obtain ⟨g, sl, S, rl, p⟩ := tNw_iff.mp q
    refine chDs postN rl p fun g1 H1 ds S1 xs st1 r1 b1 p1 => ?_
    by_cases hs : ds.length ≤ sizeLine
    · rw [if_pos hs] at p1
      exact ⟨by rw [← b1.length]; exact hs, fun q hq => PN.newL p1 r1 hq b1⟩
    · rw [if_neg hs] at p1
      exact False.elim p1
end

/-! ### built-in functions and types by values -/
def RepsB (K : PySem.W.Frag) (J : Jd) (g : Gh) (H : Hp) : List D → List V → Prop
  | [], vs => vs = []
  | d :: ds, vs => ∃ v ws, vs = v :: ws ∧ RepB K J g H d v ∧ RepsB K J g H ds ws
theorem RepsB.step {K : PySem.W.Frag} {J : Jd} {g g' : Gh} {H H' : Hp} (st : Stp (cE J.lv) g H g' H') : ∀ {ds : List D} {vs : List V}, RepsB K J g H ds vs → RepsB K J g' H' ds vs
  | [], _, h => h
  | _ :: _, _, ⟨v, ws, e, h, r⟩ => ⟨v, ws, e, h.step st, RepsB.step st r⟩
def PBs (K : PySem.W.Frag) (J : Jd) (Γ : List Bool) (σ : L2.St) (sl : List (Option D)) (g : Gh) (H : Hp) (Q : List V → Hp → Prop) : Rx (List D) → Prop
  | .ok d S' => ∀ g' H' v, Stp (cE J.lv) g H g' H' → Rel K J.C Γ g' sl S' σ H' → RepsB K J g' H' d v → Q v H'
  | .err x S' => PErr K J Γ σ sl g H x S'
  | .stuck => False
def tBs (K : PySem.W.Frag) (J : Jd) (Γ : List Bool) (m : Mx (List D)) : TA := fun σ H Q => ∃ g sl S, Rel K J.C Γ g sl S σ H ∧ PBs K J Γ σ sl g H Q (m sl S)
def SBs (X : Cx) (J : Jd) (Γ : List Bool) (es : List Expr) (m : Mx (List D)) : Prop := PA X es (tBs X.K J Γ m)
section
variable {K : PySem.W.Frag} {J : Jd} {Γ : List Bool} {σ : L2.St} {sl : List (Option D)} {g : Gh} {H : Hp} {S : Sto}
theorem postBs {Q : List V → Hp → Prop} : Post K J Γ σ sl (fun g H r => PBs K J Γ σ sl g H Q r) := ⟨fun _ _ _ _ h => h, fun _ _ h => h, fun _ _ _ _ r s h => by
  cases r with
  | ok d S' => exact fun g' H' v s' r e => h g' H' v (s.trans s') r e
  | err x S' => exact PErr.step s h
  | stuck => exact h⟩
theorem chBs {β : Type} {P : Gh → Hp → Rx β → Prop} {m : Mx (List D)} {f : List D → Mx β} {R : List V → Hp → Prop} (hP : Post K J Γ σ sl P) (r : Rel K J.C Γ g sl S σ H) (h : P g H (bindX m f sl S))
    (k : ∀ g1 H1 d S1 x, Stp (cE J.lv) g H g1 H1 → Rel K J.C Γ g1 sl S1 σ H1 → RepsB K J g1 H1 d x → P g1 H1 (f d sl S1) → R x H1) : tBs K J Γ m σ H R := by
  refine ⟨g, sl, S, r, ?_⟩
  unfold bindX at h
  cases e : m sl S with
  | ok d S' =>
    rw [e] at h
    exact fun g' H' v s r' b => k g' H' d S' v s r' b (hP.step _ _ _ _ _ s h)
  | err x S' =>
    rw [e] at h
    exact hP.err _ _ _ _ h
  | stuck =>
    rw [e] at h
    exact hP.stuck _ _ h
end
def Cal (K : PySem.W.Frag) (r : List V → Hp → VK → Prop) (f : List D → Option D) : Prop := ∀ (J : Jd) (Γ : List Bool) (σ : L2.St) (sl : List (Option D)) (g : Gh) (H : Hp) (S : Sto) (Q : VK) (ds : List D) (z : D) (vs : List V),
  f ds = some z → Rel K J.C Γ g sl S σ H → RepsB K J g H ds vs → PD K J Γ σ sl g H Q (.ok z S) → r vs H Q
/-- .. the result fresh -/
def CalN (K : PySem.W.Frag) (r : List V → Hp → VK → Prop) (f : List D → Option D) : Prop := ∀ (J : Jd) (Γ : List Bool) (σ : L2.St) (sl : List (Option D)) (g : Gh) (H : Hp) (S : Sto) (Q : VK) (ds : List D) (z : D) (vs : List V),
  f ds = some z → Rel K J.C Γ g sl S σ H → RepsB K J g H ds vs → PN K J Γ σ sl g H Q (.ok z S) → r vs H Q
def mCal (f : List D → Option D) (m : Mx (List D)) : Mx D := bindX m fun ds => ofO (f ds)
section
variable {X : Cx} {J : Jd} {Γ : List Bool} {a b c e : Expr} {es : List Expr} {ma mb mc : Mx D} {ms : Mx (List D)} {p pos : Pos} {x : Str} {id T : String} {r : List V → Hp → VK → Prop} {f : List D → Option D}
theorem sbs_nil : SBs X J Γ [] mNil := PA.imp pa_nil fun σ H Q q => by
  obtain ⟨g, sl, S, rl, p⟩ := q
  exact p g H [] Stp.refl rl rfl
theorem sbs_cons (ha : SB X J Γ e ma) (hr : SBs X J Γ es ms) (hs : starEach (e :: es) X.env = (false, eval e X.env) :: starEach es X.env := by rfl) : SBs X J Γ (e :: es) (mCons ma ms) :=
  PA.imp (pa_cons ha hr hs) fun σ H Q q => by
    obtain ⟨g, sl, S, rl, p⟩ := q
    refine chB postBs rl p fun g1 H1 d S1 x st1 r1 b1 p1 => ?_
    refine chBs postBs r1 p1 fun g2 H2 ds S2 xs st2 r2 b2 p2 => ?_
    exact p2 g2 H2 (x :: xs) Stp.refl r2 ⟨x, xs, rfl, b1.step st2, b2⟩
theorem cal_run (hf : Cal X.K r f) {σ : L2.St} {H : Hp} {Q : VK} (q : tD X.K J Γ (mCal f ms) σ H Q) : tCB r (tBs X.K J Γ ms) σ H Q := by
  obtain ⟨g, sl, S, rl, p⟩ := tD_iff.mp q
  refine chBs postD rl p fun g1 H1 ds S1 xs st1 r1 b1 p1 => ?_
  obtain ⟨z, hz, p2⟩ := ofO_of postD p1
  exact hf J Γ σ sl g1 H1 S1 Q ds z xs hz r1 b1 p2
theorem calN_run (hf : CalN X.K r f) {σ : L2.St} {H : Hp} {Q : VK} (q : tNw X.K J Γ (mCal f ms) σ H Q) : tCB r (tBs X.K J Γ ms) σ H Q := by
  obtain ⟨g, sl, S, rl, p⟩ := tNw_iff.mp q
  refine chBs postN rl p fun g1 H1 ds S1 xs st1 r1 b1 p1 => ?_
  obtain ⟨z, hz, p2⟩ := ofO_of postN p1
  exact hf J Γ σ sl g1 H1 S1 Q ds z xs hz r1 b1 p2
theorem sd_calB (hc : CallR X (.builtin id) r) (hf : Cal X.K r f) (hm : X.mg x = none) (hv : bootBuiltins x = some (.builtin id)) (ha : SBs X J Γ (e :: es) ms) (hg : Gl X x := by rfl) (hn : x ≠ "__name__" := by decide) (hdb : (x == ("__debug__" : Str)) = false := by decide)
    (he : starEach (e :: es) X.env = (false, eval e X.env) :: starEach es X.env := by rfl) (hpl : (backTo pos (starEach es X.env)).any (·.1) = false := by rfl) : SD X J Γ (.Call (.Name x p) (e :: es) [] pos) (mCal f ms) :=
  PE.imp (pe_callB hc hg hm hv ha hn hdb he hpl) fun σ H Q q => cal_run hf q
theorem sd_calT (hc : CallR X (.type T) r) (hf : Cal X.K r f) (hm : X.mg x = none) (hv : bootBuiltins x = some (.type T)) (ha : SBs X J Γ (e :: es) ms) (hg : Gl X x := by rfl) (hn : x ≠ "__name__" := by decide) (hdb : (x == ("__debug__" : Str)) = false := by decide)
    (he : starEach (e :: es) X.env = (false, eval e X.env) :: starEach es X.env := by rfl) (hpl : (backTo pos (starEach es X.env)).any (·.1) = false := by rfl) : SD X J Γ (.Call (.Name x p) (e :: es) [] pos) (mCal f ms) :=
  PE.imp (pe_callTy hc hg hm hv ha hn hdb he hpl) fun σ H Q q => cal_run hf q
theorem sn_calB (hc : CallR X (.builtin id) r) (hf : CalN X.K r f) (hm : X.mg x = none) (hv : bootBuiltins x = some (.builtin id)) (ha : SBs X J Γ (e :: es) ms) (hg : Gl X x := by rfl) (hn : x ≠ "__name__" := by decide) (hdb : (x == ("__debug__" : Str)) = false := by decide)
    (he : starEach (e :: es) X.env = (false, eval e X.env) :: starEach es X.env := by rfl) (hpl : (backTo pos (starEach es X.env)).any (·.1) = false := by rfl) : SN X J Γ (.Call (.Name x p) (e :: es) [] pos) (mCal f ms) :=
  PE.imp (pe_callB hc hg hm hv ha hn hdb he hpl) fun σ H Q q => calN_run hf q
theorem sn_calT (hc : CallR X (.type T) r) (hf : CalN X.K r f) (hm : X.mg x = none) (hv : bootBuiltins x = some (.type T)) (ha : SBs X J Γ (e :: es) ms) (hg : Gl X x := by rfl) (hn : x ≠ "__name__" := by decide) (hdb : (x == ("__debug__" : Str)) = false := by decide)
    (he : starEach (e :: es) X.env = (false, eval e X.env) :: starEach es X.env := by rfl) (hpl : (backTo pos (starEach es X.env)).any (·.1) = false := by rfl) : SN X J Γ (.Call (.Name x p) (e :: es) [] pos) (mCal f ms) :=
  PE.imp (pe_callTy hc hg hm hv ha hn hdb he hpl) fun σ H Q q => calN_run hf q
end

/-! the functions -/
def toInts : List D → Option (List Int)
  | [] => some []
  | .int i :: r => (toInts r).map (i :: ·)
  | _ :: _ => none
def toStrs : List D → Option (List Str)
  | [] => some []
  | .str i :: r => (toStrs r).map (i :: ·)
  | _ :: _ => none
section
variable {K : PySem.W.Frag}
theorem reps_ints {C : Cfg} {G : Hp} {ρ : List Addr} : ∀ {ds : List D} {vs : List V} {ns : List Int}, toInts ds = some ns → Reps K C G ρ ds vs → vs = ns.map V.int
  | [], _, _, e, .nil => by cases e; rfl
  | d :: ds, _, _, e, .cons h r => by
    cases d <;> first | cases e | skip
    rename_i i
    obtain ⟨ms, e1, rfl⟩ := Option.map_eq_some_iff.mp e
    cases h
    rw [reps_ints e1 r]; rfl
theorem reps_strs {C : Cfg} {G : Hp} {ρ : List Addr} : ∀ {ds : List D} {vs : List V} {ns : List Str}, toStrs ds = some ns → Reps K C G ρ ds vs → vs = ns.map V.str
  | [], _, _, e, .nil => by cases e; rfl
  | d :: ds, _, _, e, .cons h r => by
    cases d <;> first | cases e | skip
    rename_i i
    obtain ⟨ms, e1, rfl⟩ := Option.map_eq_some_iff.mp e
    cases h
    rw [reps_strs e1 r]; rfl
/-- len -/
def kLen : List D → Option D
  | [.lst xs] => some (.int xs.length)
  | [.tup xs] => some (.int xs.length)
  | [.str z] => if z.length ≤ sizeLine then some (.int z.length) else none
  | _ => none
def rLenF (K : PySem.W.Frag) : List V → Hp → VK → Prop := fun xs H Q => (∃ p ys, xs = [.ref p] ∧ (SqL K H p ys ∨ SqT K H p ys) ∧ Q (.int ys.length) H) ∨ (∃ z, xs = [.str z] ∧ z.length ≤ sizeLine ∧ Q (.int z.length) H)
theorem CallR.or {X : Cx} {f : Value} {r r' : List V → Hp → VK → Prop} (h : CallR X f r) (h' : CallR X f r') : CallR X f (fun xs H Q => r xs H Q ∨ r' xs H Q) := fun pins s σ H xs us Q I rx q => q.elim (h pins s σ H xs us Q I rx) (h' pins s σ H xs us Q I rx)
theorem o_len {X : Cx} : CallR X (.builtin "len") (rLenF X.K) := call_len_seq.or call_len_str
theorem f_len : Cal K (rLenF K) kLen := by
  intro J Γ σ sl g H S Q ds z vs hz r b p
  unfold kLen at hz
  split at hz
  · cases hz
    obtain ⟨v, ws, rfl, b, rfl⟩ := b
    obtain ⟨a, us, rfl, s1, r1⟩ := b.lst r.sub
    exact .inl ⟨a, us, rfl, .inl s1, by rw [← r1.length]; exact PD.now p r (.int _)⟩
  · cases hz
    obtain ⟨v, ws, rfl, b, rfl⟩ := b
    obtain ⟨a, us, rfl, s1, r1⟩ := b.tup r.sub
    exact .inl ⟨a, us, rfl, .inr s1, by rw [← r1.length]; exact PD.now p r (.int _)⟩
  · split at hz
    · cases hz
      obtain ⟨v, ws, rfl, b, rfl⟩ := b
      exact .inr ⟨_, by rw [b.str], by assumption, PD.now p r (.int _)⟩
    · cases hz
  · cases hz
def kInt : List D → Option D
  | [.int i] => some (.int i)
  | [.bl b] => some (.int (if b then 1 else 0))
  | _ => none
def rIntF : List V → Hp → VK → Prop := fun xs H Q => (∃ i, xs = [.int i] ∧ Q (.int i) H) ∨ ∃ k, xs = [.bl k] ∧ Q (.int (if k = true then 1 else 0)) H
theorem o_int {X : Cx} : CallR X (.type "int") rIntF := call_int1
theorem f_int : Cal K rIntF kInt := by
  intro J Γ σ sl g H S Q ds z vs hz r b p
  unfold kInt at hz
  split at hz
  · cases hz
    obtain ⟨v, ws, rfl, b, rfl⟩ := b
    exact .inl ⟨_, by rw [b.int], PD.now p r (.int _)⟩
  · cases hz
    obtain ⟨v, ws, rfl, b, rfl⟩ := b
    exact .inr ⟨_, by rw [b.bl], PD.now p r (.int _)⟩
  · cases hz
/-- min, max of two ints -/
def kMin2 : List D → Option D
  | [.int i, .int j] => some (.int (if j < i then j else i))
  | _ => none
def kMax2 : List D → Option D
  | [.int i, .int j] => some (.int (if j > i then j else i))
  | _ => none
theorem f_min2 : Cal K (fun xs H Q => ∃ i j, xs = [.int i, .int j] ∧ Q (.int (if j < i then j else i)) H) kMin2 := by
  intro J Γ σ sl g H S Q ds z vs hz r b p
  unfold kMin2 at hz
  split at hz
  · cases hz
    obtain ⟨v, ws, rfl, b, w', ws', rfl, b', rfl⟩ := b
    exact ⟨_, _, by rw [b.int, b'.int], PD.now p r (.int _)⟩
  · cases hz
theorem f_max2 : Cal K (fun xs H Q => ∃ i j, xs = [.int i, .int j] ∧ Q (.int (if j > i then j else i)) H) kMax2 := by
  intro J Γ σ sl g H S Q ds z vs hz r b p
  unfold kMax2 at hz
  split at hz
  · cases hz
    obtain ⟨v, ws, rfl, b, w', ws', rfl, b', rfl⟩ := b
    exact ⟨_, _, by rw [b.int, b'.int], PD.now p r (.int _)⟩
  · cases hz
/-- sum of ints -/
def kSum : List D → Option D
  | [.lst xs] => (toInts xs).map fun ns => .int ns.sum
  | _ => none
theorem f_sum : Cal K (rSum K) kSum := by
  intro J Γ σ sl g H S Q ds z vs hz r b p
  unfold kSum at hz
  split at hz
  · obtain ⟨ns, hn, rfl⟩ := Option.map_eq_some_iff.mp hz
    obtain ⟨v, ws, rfl, b, rfl⟩ := b
    obtain ⟨a, us, rfl, s1, r1⟩ := b.lst r.sub
    rw [reps_ints hn r1] at s1
    exact ⟨a, ns, rfl, s1, PD.now p r (.int _)⟩
  · cases hz
/-- list(x), tuple(x) of a list or a tuple -/
def kList : List D → Option D
  | [.lst xs] => some (.lst xs)
  | [.tup xs] => some (.lst xs)
  | _ => none
def rListF (K : PySem.W.Frag) : List V → Hp → VK → Prop := fun xs H Q => ∃ p ys, xs = [.ref p] ∧ (SqL K H p ys ∨ SqT K H p ys) ∧ ∀ l, H l = none → Q (.ref l) (upd H l (.lst ys))
theorem o_list {X : Cx} : CallR X (.type "list") (rListF X.K) := call_list_of
theorem f_list : Cal K (rListF K) kList := by
  intro J Γ σ sl g H S Q ds z vs hz r b p
  unfold kList at hz
  split at hz <;> first | cases hz | skip
  · obtain ⟨v, ws, rfl, b, rfl⟩ := b
    obtain ⟨a, us, rfl, s1, r1⟩ := b.lst r.sub
    exact ⟨a, us, rfl, .inl s1, fun l hl => p.newL r hl r1⟩
  · obtain ⟨v, ws, rfl, b, rfl⟩ := b
    obtain ⟨a, us, rfl, s1, r1⟩ := b.tup r.sub
    exact ⟨a, us, rfl, .inr s1, fun l hl => p.newL r hl r1⟩
theorem fn_list : CalN K (rListF K) kList := by
  intro J Γ σ sl g H S Q ds z vs hz r b p
  unfold kList at hz
  split at hz <;> first | cases hz | skip
  · obtain ⟨v, ws, rfl, b, rfl⟩ := b
    obtain ⟨a, us, rfl, s1, r1⟩ := b.lst r.sub
    exact ⟨a, us, rfl, .inl s1, fun l hl => p.newL r hl r1⟩
  · obtain ⟨v, ws, rfl, b, rfl⟩ := b
    obtain ⟨a, us, rfl, s1, r1⟩ := b.tup r.sub
    exact ⟨a, us, rfl, .inr s1, fun l hl => p.newL r hl r1⟩
def kTuple : List D → Option D
  | [.lst xs] => some (.tup xs)
  | [.tup xs] => some (.tup xs)
  | _ => none
def rTupF (K : PySem.W.Frag) : List V → Hp → VK → Prop := fun xs H Q => ∃ p ys, xs = [.ref p] ∧ ((SqL K H p ys ∧ ∀ l, H l = none → Q (.ref l) (upd H l (.tup ys))) ∨ (SqT K H p ys ∧ Q (.ref p) H))
theorem o_tuple {X : Cx} : CallR X (.type "tuple") (rTupF X.K) := call_tuple_of
theorem f_tuple : Cal K (rTupF K) kTuple := by
  intro J Γ σ sl g H S Q ds z vs hz r b p
  unfold kTuple at hz
  split at hz <;> first | cases hz | skip
  · obtain ⟨v, ws, rfl, b, rfl⟩ := b
    obtain ⟨a, us, rfl, s1, r1⟩ := b.lst r.sub
    exact ⟨a, us, rfl, .inl ⟨s1, fun l hl => p.newT r hl r1⟩⟩
  · obtain ⟨v, ws, rfl, b, rfl⟩ := b
    rcases b with b | ⟨_, _, _, _, _, z⟩
    · have b' := b
      cases b with
      | @tup a1 vs1 _ s1 r1 => exact ⟨_, _, rfl, .inr ⟨sqT_mono r.sub s1, PD.now p r b'⟩⟩
    · exact False.elim z
end
end Sm
set_option Elab.async false
set_option linter.all false
set_option maxRecDepth 100000
set_option maxHeartbeats 1000000
/-! Sim 5: isinstance, what is walked, targets, comprehensions. -/
namespace Sm
open PySem PySem.Spec PyProof.Rows L2

/-! ### isinstance -/
inductive Ty where
  | int | bool | str | list | tuple | dict
def Ty.nm : Ty → String
  | .int => "int" | .bool => "bool" | .str => "str" | .list => "list" | .tuple => "tuple" | .dict => "dict"
def isi : Ty → D → Option Bool
  | _, .ref _ => none
  | _, .obj _ _ => none
  | .int, .int _ => some true
  | .int, .bl _ => some true
  | .bool, .bl _ => some true
  | .str, .str _ => some true
  | .list, .lst _ => some true
  | .tuple, .tup _ => some true
  | .dict, .dK _ => some true
  | .dict, .dT _ => some true
  | _, _ => some false
def dNm : D → String
  | .non => "NoneType" | .bl _ => "bool" | .int _ => "int" | .str _ => "str" | .lst _ => "list" | .tup _ => "tuple" | .dK _ => "dict" | .dT _ => "dict" | _ => ""
theorem isi_kit {T : Ty} {d : D} {b : Bool} (h : isi T d = some b) : kitB (dNm d) T.nm = some b := by
  cases d <;> cases T <;> first | (cases h; done) | (cases h; dsimp only [dNm, Ty.nm]; decide +kernel)
theorem isi_nm {T : Ty} {d : D} {b : Bool} (h : isi T d = some b) : dNm d ≠ "" := by
  cases d <;> first | (cases T <;> cases h <;> done) | (dsimp only [dNm]; decide)
theorem tyX_sqL {K : PySem.W.Frag} {H : Hp} {a : Addr} {vs : List V} (h : SqL K H a vs) : TyX K H (.ref a) (.type "list") := by
  rcases h with (h | ⟨o, h⟩) | ⟨o, its, n, h, hc, _⟩
  · exact .base (.lst h)
  · exact .base (.frz h)
  · exact .kList h hc
theorem tyX_sqT {K : PySem.W.Frag} {H : Hp} {a : Addr} {vs : List V} (h : SqT K H a vs) : TyX K H (.ref a) (.type "tuple") := by
  rcases h with (h | ⟨o, h⟩) | ⟨o, its, n, h, hc, _⟩
  · exact .base (.tup h)
  · exact .fTuple h
  · exact .kTuple h hc
theorem tyX_of {K : PySem.W.Frag} {J : Jd} {g : Gh} {H : Hp} {d : D} {v : V} (h : RepB K J g H d v) (hs : Same g.G H) (hd : dNm d ≠ "") : TyX K H v (.type (dNm d)) := by
  cases d with
  | non => cases h.non; exact .base .non
  | bl b => cases h.bl; exact .base (.bl b)
  | int b => cases h.int; exact .base (.int b)
  | str b => cases h.str; exact .base (.str b)
  | lst xs => obtain ⟨p, vs, rfl, s, _⟩ := h.lst hs; exact tyX_sqL s
  | tup xs => obtain ⟨p, vs, rfl, s, _⟩ := h.tup hs; exact tyX_sqT s
  | dK xs => obtain ⟨p, vs, rfl, s, _⟩ := h.dK hs; exact .base (.dK s)
  | dT xs =>
    rcases h with h | ⟨p, w, rfl, _, _, vs, e, _⟩
    · cases h with
      | dT a _ => exact .base (.dT (hs _ _ a))
    · exact .base (.dT e)
  | ref i => exact absurd rfl hd
  | obj c fs => exact absurd rfl hd
def fIsi (T : Ty) (d : D) : Option D := (isi T d).map .bl
section
variable {X : Cx} {J : Jd} {Γ : List Bool} {a b c e : Expr} {ma mb mc : Mx D} {p p2 pos : Pos}
theorem sd_isi (T : Ty) {x y : Str} (ha : SB X J Γ a ma) (hm : X.mg x = none) (hv : bootBuiltins x = some (.builtin "isinstance")) (hm2 : X.mg y = none) (hv2 : bootBuiltins y = some (.type T.nm)) (hg : Gl X x := by rfl) (hg2 : Gl X y := by rfl)
    (hn : x ≠ "__name__" := by decide) (hdb : (x == ("__debug__" : Str)) = false := by decide) (hn2 : y ≠ "__name__" := by decide) (hdb2 : (y == ("__debug__" : Str)) = false := by decide)
    (he : starEach [a, .Name y p2] X.env = (false, eval a X.env) :: starEach [.Name y p2] X.env := by rfl) (he2 : starEach [.Name y p2] X.env = (false, eval (.Name y p2) X.env) :: starEach [] X.env := by rfl) (hpl : (backTo pos (starEach [.Name y p2] X.env)).any (·.1) = false := by rfl) :
    SD X J Γ (.Call (.Name x p) [a, .Name y p2] [] pos) (mUn (fIsi T) ma) :=
  PE.imp (pe_callB (call_isi (X := X)) hg hm hv (pa_cons ha (pa_cons (pe_bltn (v := .ty T.nm) hg2 hm2 hv2 rfl hn2 hdb2) pa_nil he2) he) hn hdb he hpl) fun σ H Q q => by
    obtain ⟨g, sl, S, rl, p⟩ := tD_iff.mp q
    refine chB postD rl p fun g1 H1 d S1 x st1 r1 b1 p1 => ?_
    obtain ⟨z, hz, p2⟩ := ofO_of postD p1
    obtain ⟨k, hk, rfl⟩ := Option.map_eq_some_iff.mp hz
    exact ⟨x, .ty T.nm, .type (dNm d), .type T.nm, k, rfl, .ty _, tyX_of b1 r1.sub (isi_nm hk), kit_ty (isi_kit hk), PD.now p2 r1 (.bl _)⟩
end

/-! ### what is walked -/
/-- the walk gives ds, whatever happens that c allows -/
def WalkD (K : PySem.W.Frag) (C : Cfg) (c : Ow → Bool) (g : Gh) (H : Hp) (Jt : It) (ds : List D) : Prop :=
  ∃ (Gp : Hp → Prop) (Y : Nat → Hp → V → Hp → Prop), Walk Jt ds.length Gp Y ∧ (∀ g1 H1, Stp c g H g1 H1 → Same g1.G H1 → Gp H1) ∧
    ∀ i g1 H1 x H2 S d, Stp c g H g1 H1 → StoOk K C g1 H1 S → ds[i]? = some d → Y i H1 x H2 → ∃ g2, Stp (cE false) g1 H1 g2 H2 ∧ StoOk K C g2 H2 S ∧ Rep K C g2.G g2.ρ d x
def PI' (K : PySem.W.Frag) (J : Jd) (c : Ow → Bool) (Γ : List Bool) (σ : L2.St) (sl : List (Option D)) (g : Gh) (H : Hp) (R : It → Hp → Prop) : Rx (List D) → Prop
  | .ok ds S' => ∀ g' H' Jt, Stp (cE J.lv) g H g' H' → Rel K J.C Γ g' sl S' σ H' → WalkD K J.C c g' H' Jt ds → R Jt H'
  | .err x S' => PErr K J Γ σ sl g H x S'
  | .stuck => False
def tI (K : PySem.W.Frag) (J : Jd) (c : Ow → Bool) (Γ : List Bool) (m : Mx (List D)) : TI := fun σ H R => ∃ g sl S, Rel K J.C Γ g sl S σ H ∧ PI' K J c Γ σ sl g H R (m sl S)
def SI (X : Cx) (J : Jd) (c : Ow → Bool) (Γ : List Bool) (tg e : Expr) (m : Mx (List D)) : Prop := PI X tg e (tI X.K J c Γ m)
theorem PI.imp {X : Cx} {tg e : Expr} {t t' : TI} (h : PI X tg e t) (k : ∀ σ H Q, t' σ H Q → t σ H Q) : PI X tg e t' := ⟨fun pins s σ H Q I q => h.run pins s σ H Q I (k σ H Q q)⟩
theorem postI {K : PySem.W.Frag} {J : Jd} {c : Ow → Bool} {Γ : List Bool} {σ : L2.St} {sl : List (Option D)} {R : It → Hp → Prop} : Post K J Γ σ sl (fun g H r => PI' K J c Γ σ sl g H R r) := ⟨fun _ _ _ _ h => h, fun _ _ h => h, fun _ _ _ _ r s h => by
  cases r with
  | ok d S' => exact fun g' H' v s' r e => h g' H' v (s.trans s') r e
  | err x S' => exact PErr.step s h
  | stuck => exact h⟩
/-- a list or a tuple -/
def iSeq (K : PySem.W.Frag) (tl : TE) : TI := fun σ H R => tl σ H fun x H1 => (∃ a xs, x = .ref a ∧ SqL K H1 a xs ∧ R (Itl K a) H1) ∨ (∃ a xs, x = .ref a ∧ SqT K H1 a xs ∧ R (Itt K a) H1)
theorem pi_seq {X : Cx} {tg l : Expr} {tl : TE} (hl : PE X l tl) : PI X tg l (iSeq X.K tl) := by
  refine ⟨fun pins s σ H R I h => thn (hl.run pins s σ H _ I h) fun v s1 ⟨x, H1, I1, r1, q1⟩ => ?_⟩
  rcases q1 with ⟨a, xs, e, hq, q⟩ | ⟨a, xs, e, hq, q⟩ <;> subst e <;> cases r1
  · obtain ⟨its, _, pl, _⟩ := I1.list hq
    exact wpAny_pyIter_list pl.isList (pi_one (tk := s1.toks) I1 _ (turn_list a _) ⟨_, Heap.get?_push_size _ rfl, rfl, rfl⟩ q)
  · obtain ⟨its, _, pl, _⟩ := I1.tuple hq
    exact wpAny_pyIter_tuple pl (pi_one (tk := s1.toks) I1 _ (turn_tuple a _) ⟨_, Heap.get?_push_size _ rfl, rfl, rfl⟩ q)
theorem walkD_list {K : PySem.W.Frag} {C : Cfg} {c : Ow → Bool} {g : Gh} {H : Hp} {a : Addr} {xs : List V} {ds : List D} (h : ∀ g1 H1, Stp c g H g1 H1 → Same g1.G H1 → SqL K H1 a xs) (r : Reps K C g.G g.ρ ds xs) : WalkD K C c g H (Itl K a) ds := by
  refine ⟨fun H => SqL K H a xs, YAt xs, by rw [r.length]; exact walk_list, h, fun i g1 H1 x H2 S d st s e y => ?_⟩
  obtain ⟨rfl, y⟩ := y
  obtain ⟨v, h1, h2⟩ := r.get e
  rw [h1] at y; cases y
  exact ⟨g1, Stp.refl, s, h2.step st⟩
theorem walkD_tup {K : PySem.W.Frag} {C : Cfg} {c : Ow → Bool} {g : Gh} {H : Hp} {a : Addr} {xs : List V} {ds : List D} (h : ∀ g1 H1, Stp c g H g1 H1 → Same g1.G H1 → SqT K H1 a xs) (r : Reps K C g.G g.ρ ds xs) : WalkD K C c g H (Itt K a) ds := by
  refine ⟨fun H => SqT K H a xs, YAt xs, by rw [r.length]; exact walk_tup, h, fun i g1 H1 x H2 S d st s e y => ?_⟩
  obtain ⟨rfl, y⟩ := y
  obtain ⟨v, h1, h2⟩ := r.get e
  rw [h1] at y; cases y
  exact ⟨g1, Stp.refl, s, h2.step st⟩
def itD : D → Option (List D)
  | .lst xs => some xs
  | .tup xs => some xs
  | _ => none
def mSeq (m : Mx D) : Mx (List D) := bindX m fun d => ofO (itD d)
def mRng (f : List D → Option (List D)) (m : Mx (List D)) : Mx (List D) := bindX m fun ds => ofO (f ds)
def rng (lo : Int) (n : Nat) : List D := (List.range n).map fun (k : Nat) => .int (lo + k)
def inR (i : Int) : Bool := decide (-(2 ^ 62) ≤ i ∧ i < 2 ^ 62)
def kRng1 : List D → Option (List D)
  | [.int j] => if inR j = true then some (rng 0 j.toNat) else none
  | _ => none
def kRng2 : List D → Option (List D)
  | [.int i, .int j] => if inR i = true ∧ inR j = true then some (rng i (j - i).toNat) else none
  | _ => none
theorem walkD_range {K : PySem.W.Frag} {C : Cfg} {c : Ow → Bool} {g : Gh} {H : Hp} {lo : Int} {n : Nat} : WalkD K C c g H (Itr lo n) (rng lo n) := by
  refine ⟨fun _ => True, YFn fun i => .int (lo + i), by unfold rng; rw [List.length_map, List.length_range]; exact walk_range, fun _ _ _ _ => trivial, fun i g1 H1 x H2 S d st s e y => ?_⟩
  obtain ⟨rfl, rfl⟩ := y
  unfold rng at e
  rw [List.getElem?_map] at e
  cases q : (List.range n)[i]? with
  | none => rw [q] at e; cases e
  | some k =>
    rw [q] at e; cases e
    obtain ⟨h1, h2⟩ := List.getElem?_eq_some_iff.mp q
    have : k = i := by rw [← h2, List.getElem_range]
    subst this
    exact ⟨g1, Stp.refl, s, .int _⟩
section
variable {X : Cx} {J : Jd} {Γ : List Bool} {c : Ow → Bool} {tg a b e : Expr} {ma mb mc : Mx D} {ms : Mx (List D)} {p p2 pos : Pos}
theorem si_seq (h : SD X J Γ e ma) : SI X J c Γ tg e (mSeq ma) := PI.imp (pi_seq h) fun σ H R q => by
  obtain ⟨g, sl, S, rl, p⟩ := q
  refine chD postI rl p fun g1 H1 d S1 x st1 r1 b1 p1 => ?_
  obtain ⟨z, hz, p2⟩ := ofO_of postI p1
  cases d <;> first | cases hz | skip
  · cases b1 with
    | lst s r => exact .inl ⟨_, _, rfl, sqL_mono r1.sub s, p2 g1 H1 _ Stp.refl r1 (walkD_list (fun g2 H2 st ss => sqL_mono ss (sqL_mono st.gG s)) r)⟩
  · cases b1 with
    | tup s r => exact .inr ⟨_, _, rfl, sqT_mono r1.sub s, p2 g1 H1 _ Stp.refl r1 (walkD_tup (fun g2 H2 st ss => sqT_mono ss (sqT_mono st.gG s)) r)⟩
theorem si_seqB (h : SB X J Γ e ma) : SI X J (cE J.lv) Γ tg e (mSeq ma) := PI.imp (pi_seq h) fun σ H R q => by
  obtain ⟨g, sl, S, rl, p⟩ := q
  refine chB postI rl p fun g1 H1 d S1 x st1 r1 b1 p1 => ?_
  obtain ⟨z, hz, p2⟩ := ofO_of postI p1
  rcases b1 with b1 | ⟨a, w, rfl, hw, hc, cl⟩
  · cases d <;> first | cases hz | skip
    · cases b1 with
      | lst s r => exact .inl ⟨_, _, rfl, sqL_mono r1.sub s, p2 g1 H1 _ Stp.refl r1 (walkD_list (fun g2 H2 st ss => sqL_mono ss (sqL_mono st.gG s)) r)⟩
    · cases b1 with
      | tup s r => exact .inr ⟨_, _, rfl, sqT_mono r1.sub s, p2 g1 H1 _ Stp.refl r1 (walkD_tup (fun g2 H2 st ss => sqT_mono ss (sqT_mono st.gG s)) r)⟩
  · cases d <;> first | exact False.elim cl | cases hz | skip
    obtain ⟨vs, e, r⟩ := cl
    exact .inl ⟨a, vs, rfl, .of e, p2 g1 H1 _ Stp.refl r1 (walkD_list (fun g2 H2 st ss => .of (st.fr a _ e fun w' hw' => by rw [hw] at hw'; cases hw'; exact hc)) r)⟩
theorem si_range1 (h : SDs X J Γ [a] ms) (hm : X.mg "range" = none) (hg : Gl X "range" := by rfl) (hs : starEach [a] X.env = [(false, eval a X.env)] := by rfl) : SI X J c Γ tg (.Call (.Name "range" p) [a] [] pos) (mRng kRng1 ms) :=
  PI.imp (pi_range1 hg hm h hs) fun σ H R q => by
    obtain ⟨g, sl, S, rl, p⟩ := q
    refine chDs postI rl p fun g1 H1 ds S1 xs st1 r1 b1 p1 => ?_
    obtain ⟨z, hz, p2⟩ := ofO_of postI p1
    unfold kRng1 at hz
    split at hz
    · split at hz
      · rename_i hj
        cases hz
        cases b1 with
        | cons h1 h2 =>
          cases h1; cases h2
          exact ⟨_, rfl, (of_decide_eq_true hj).1, (of_decide_eq_true hj).2, p2 g1 H1 _ Stp.refl r1 walkD_range⟩
      · cases hz
    · cases hz
theorem si_range2 (h : SDs X J Γ [a, b] ms) (hm : X.mg "range" = none) (hg : Gl X "range" := by rfl) (hs : starEach [a, b] X.env = [(false, eval a X.env), (false, eval b X.env)] := by rfl) (hs2 : starEach [b] X.env = [(false, eval b X.env)] := by rfl) : SI X J c Γ tg (.Call (.Name "range" p) [a, b] [] pos) (mRng kRng2 ms) :=
  PI.imp (pi_range2 hg hm h hs hs2) fun σ H R q => by
    obtain ⟨g, sl, S, rl, p⟩ := q
    refine chDs postI rl p fun g1 H1 ds S1 xs st1 r1 b1 p1 => ?_
    obtain ⟨z, hz, p2⟩ := ofO_of postI p1
    unfold kRng2 at hz
    split at hz
    · split at hz
      · rename_i hj
        cases hz
        cases b1 with
        | cons h1 h2 =>
          cases h2 with
          | cons h3 h4 =>
            cases h1; cases h3; cases h4
            have h1 := of_decide_eq_true hj.1
            have h2 := of_decide_eq_true hj.2
            exact ⟨_, _, rfl, ⟨h1.1, h1.2, h2.1, h2.2⟩, p2 g1 H1 _ Stp.refl r1 walkD_range⟩
      · cases hz
    · cases hz
end

/-! ### targets -/
/-- only the slots vs differ -/
def SetOnly (vs : List Nat) (σ σ' : L2.St) : Prop := σ'.length = σ.length ∧ ∀ j, j ∉ vs → σ'[j]? = σ[j]?
abbrev Tg := D → List (Option D) → Option (List (Option D))
def STg (X : Cx) (C : Cfg) (Γ Γ' : List Bool) (vs : List Nat) (tg : Expr) (t : Tg) (gt : TG) : Prop := PG X tg gt ∧ ∀ (g : Gh) (sl sl' : List (Option D)) (S : Sto) (σ : L2.St) (H : Hp) (d : D) (v : V) (Q : L2.St → Hp → Prop),
  Rel X.K C Γ g sl S σ H → Rep X.K C g.G g.ρ d v → t d sl = some sl' → (∀ σ', SetOnly vs σ σ' → Rel X.K C Γ' g sl' S σ' H → Q σ' H) → gt v σ H Q
def tName (i : Nat) : Tg := fun d sl => if i < sl.length then some (sl.set i (some d)) else none
def setsD : List Nat → List D → List (Option D) → Option (List (Option D))
  | [], [], sl => some sl
  | i :: is, d :: ds, sl => if i < sl.length then setsD is ds (sl.set i (some d)) else none
  | _, _, _ => none
def tTupN (is : List Nat) : Tg := fun d sl => match d with
  | .tup ds => setsD is ds sl
  | _ => none
theorem cau_set {sl : List (Option D)} {σ : L2.St} {i j : Nat} {d : D} {v : Option V} {a : Addr} (h : sl[j]? = some none → σ[j]? = some (some (.ref a))) (hj : (sl.set i (some d))[j]? = some none) : (σ.set i v)[j]? = some (some (.ref a)) := by
  by_cases z : i = j
  · subst z
    have hi : i < sl.length := by
      have := (List.getElem?_eq_some_iff.mp hj).1
      rw [List.length_set] at this; exact this
    rw [List.getElem?_set_self hi] at hj
    cases hj
  · rw [List.getElem?_set_ne z] at hj ⊢
    exact h hj
theorem rel_set {K : PySem.W.Frag} {C : Cfg} {Γ : List Bool} {g : Gh} {sl : List (Option D)} {S : Sto} {σ : L2.St} {H : Hp} {i : Nat} {d : D} {v : V} (r : Rel K C Γ g sl S σ H) (h : Rep K C g.G g.ρ d v) (hΓ : Γ.getD i false = false) : Rel K C Γ g (sl.set i (some d)) S (σ.set i (some v)) H := by
  refine ⟨r.sto, by rw [List.length_set, List.length_set]; exact r.len, fun j e q hj => ?_, fun j e q hj => ?_, fun c q => ⟨fun hj => ?_, (r.cau c q).2⟩⟩
  · by_cases z : i = j
    · subst z
      have hi : i < sl.length := by
        have := (List.getElem?_eq_some_iff.mp q).1
        rw [List.length_set] at this; exact this
      rw [List.getElem?_set_self hi] at q
      cases q
      exact ⟨v, by rw [List.getElem?_set_self (by rw [← r.len]; exact hi)], h⟩
    · rw [List.getElem?_set_ne z] at q
      obtain ⟨u, h1, h2⟩ := r.slF j e q hj
      exact ⟨u, by rw [List.getElem?_set_ne z]; exact h1, h2⟩
  · by_cases z : i = j
    · subst z; rw [hΓ] at hj; cases hj
    · rw [List.getElem?_set_ne z] at q
      obtain ⟨u, h1, h2⟩ := r.slO j e q hj
      exact ⟨u, by rw [List.getElem?_set_ne z]; exact h1, h2⟩
  · exact cau_set (r.cau c q).1 hj
theorem setOnly_set {vs : List Nat} {σ : L2.St} {i : Nat} {v : Option V} (hi : i ∈ vs) : SetOnly vs σ (σ.set i v) := ⟨List.length_set .., fun j hj => List.getElem?_set_ne fun (z : i = j) => hj (z ▸ hi)⟩
theorem SetOnly.trans {vs : List Nat} {σ σ1 σ2 : L2.St} (a : SetOnly vs σ σ1) (b : SetOnly vs σ1 σ2) : SetOnly vs σ σ2 := ⟨b.1.trans a.1, fun j hj => (b.2 j hj).trans (a.2 j hj)⟩
section
variable {X : Cx} {C : Cfg} {Γ : List Bool} {pos : Pos}
theorem tg_name (i : Nat) {x : Str} (hN : X.N.Nodup) (hΓ : Γ.getD i false = false := by rfl) (hi : X.N[i]? = some x := by rfl) (hx : Loc X.env.scope x := by first | exact Or.inl rfl | exact Or.inr rfl)
    (hf : X.fn x = true ∨ X.env.scope.names.lookup x = some .local := by first | exact .inl rfl | exact .inr rfl | assumption) : STg X C Γ Γ [i] (.Name x pos) (tName i) (gName i) :=
  ⟨pg_name hN hi hx hf, fun g sl sl' S σ H d v Q r h e k => by
    unfold tName at e
    split at e
    · cases e
      exact k _ (setOnly_set (by simp)) (rel_set r h hΓ)
    · cases e⟩
/-- a tuple of names -/
inductive SNs (X : Cx) (Γ : List Bool) : List Expr → List Nat → TGs → Prop
  | nil : SNs X Γ [] [] gNil
  | cons {e : Expr} {es : List Expr} {i : Nat} {is : List Nat} {u : TGs} (h1 : PG X e (gName i)) (hΓ : Γ.getD i false = false) (h2 : SNs X Γ es is u) (hs : (assignEach (e :: es) X.env).map (·.2) = assign e X.env :: (assignEach es X.env).map (·.2)) : SNs X Γ (e :: es) (i :: is) (gCons (gName i) u)
theorem SNs.pgs {es : List Expr} {is : List Nat} {u : TGs} (h : SNs X Γ es is u) : PGs X es u := by
  induction h with
  | nil => exact pgs_nil
  | cons h1 _ _ hs ih => exact pgs_cons h1 ih hs
theorem SNs.run {es : List Expr} {is : List Nat} {u : TGs} (h : SNs X Γ es is u) {all : List Nat} (ha : ∀ i ∈ is, i ∈ all) : ∀ (g : Gh) (sl sl' : List (Option D)) (S : Sto) (σ : L2.St) (H : Hp) (ds : List D) (vs : List V) (Q : L2.St → Hp → Prop),
    Rel X.K C Γ g sl S σ H → Reps X.K C g.G g.ρ ds vs → setsD is ds sl = some sl' → (∀ σ', SetOnly all σ σ' → Rel X.K C Γ g sl' S σ' H → Q σ' H) → u vs σ H Q := by
  induction h with
  | nil =>
    intro g sl sl' S σ H ds vs Q r rp e k
    cases rp with
    | nil => cases e; exact ⟨rfl, k σ ⟨rfl, fun _ _ => rfl⟩ r⟩
    | cons _ _ => cases e
  | @cons e es i is u h1 hΓ h2 hs ih =>
    intro g sl sl' S σ H ds vs Q r rp e k
    cases rp with
    | nil => cases e
    | @cons d v ds vs hd hr =>
      unfold setsD at e
      split at e
      · refine ⟨v, vs, rfl, ?_⟩
        refine ih (fun j hj => ha j (List.mem_cons_of_mem _ hj)) g _ sl' S _ H ds vs Q (rel_set r hd hΓ) hr e fun σ' s' r' => k σ' ((setOnly_set (ha i List.mem_cons_self)).trans s') r'
      · cases e
theorem tg_tup {es : List Expr} {is : List Nat} {u : TGs} {k : Nat} (hc : X.calm = true) (h : SNs X Γ es is u) (hn : (assignEach es X.env).length = is.length := by rfl) (hst : (assignEach es X.env).findIdx? (·.1) = none := by rfl) : STg X C Γ Γ is (.Tuple es k pos) (tTupN is) (gTup X.K is.length u) :=
  ⟨pg_tup hc h.pgs hn hst, fun g sl sl' S σ H d v Q r hd e k => by
    unfold tTupN at e
    split at e
    · rename_i ds
      cases hd with
      | @tup a vs _ s rp =>
        refine ⟨a, vs, rfl, sqT_mono r.sto.sub s, ?_, h.run (fun _ hi => hi) g sl sl' S σ H ds vs Q r rp e k⟩
        rw [← rp.length]
        clear k s rp hc h hn hst
        have : ∀ (is : List Nat) (ds : List D) (sl : List (Option D)), setsD is ds sl = some sl' → ds.length = is.length := by
          intro is
          induction is with
          | nil => intro ds sl e; cases ds with
            | nil => rfl
            | cons _ _ => cases e
          | cons i is ih => intro ds sl e; cases ds with
            | nil => cases e
            | cons d ds =>
              unfold setsD at e
              split at e
              · rw [List.length_cons, List.length_cons, ih ds _ e]
              · cases e
        exact this is ds sl e
    · cases e⟩
end

/-! ### list comprehensions -/
def wipeD (sl : List (Option D)) : List Nat → List (Option D)
  | [] => sl
  | v :: vs => (wipeD sl vs).set v none
theorem wipeD_length (sl : List (Option D)) : ∀ vs : List Nat, (wipeD sl vs).length = sl.length
  | [] => rfl
  | v :: vs => by unfold wipeD; rw [List.length_set, wipeD_length sl vs]
theorem wipeD_get {sl : List (Option D)} {i : Nat} {d : D} : ∀ {vs : List Nat}, (wipeD sl vs)[i]? = some (some d) → sl[i]? = some (some d) ∧ i ∉ vs
  | [], h => ⟨h, by simp⟩
  | v :: vs, h => by
    unfold wipeD at h
    by_cases z : v = i
    · subst z
      by_cases hv : v < (wipeD sl vs).length
      · rw [List.getElem?_set_self hv] at h; cases h
      · rw [List.getElem?_eq_none (by rw [List.length_set]; omega)] at h; cases h
    · rw [List.getElem?_set_ne z] at h
      obtain ⟨h1, h2⟩ := wipeD_get h
      exact ⟨h1, fun hm => (List.mem_cons.mp hm).elim (fun q => z q.symm) h2⟩
theorem wipe_get {σ : L2.St} {i : Nat} : ∀ {vs : List Nat}, i ∉ vs → (wipe σ vs)[i]? = σ[i]?
  | [], _ => rfl
  | v :: vs, h => by
    unfold wipe
    rw [List.getElem?_set_ne (fun z => h (by rw [z]; exact List.mem_cons_self)), wipe_get fun q => h (List.mem_cons_of_mem _ q)]
theorem wipe_none {σ : L2.St} {i : Nat} : ∀ {vs : List Nat}, i ∈ vs → i < σ.length → (wipe σ vs)[i]? = some none
  | v :: vs, h, hl => by
    unfold wipe
    by_cases z : v = i
    · subst z
      rw [List.getElem?_set_self (by rw [wipe_length]; exact hl)]
    · rw [List.getElem?_set_ne z]
      exact wipe_none ((List.mem_cons.mp h).resolve_left fun q => z q.symm) hl
theorem wipe_wipe {vs : List Nat} {σ σ' : L2.St} (h : SetOnly vs (wipe σ vs) σ') : wipe σ' vs = wipe σ vs := by
  have hl : σ'.length = σ.length := by rw [h.1, wipe_length]
  refine List.ext_getElem? fun j => ?_
  by_cases hj : j ∈ vs
  · by_cases hlt : j < σ.length
    · rw [wipe_none hj (by rw [hl]; exact hlt), wipe_none hj hlt]
    · rw [List.getElem?_eq_none (by rw [wipe_length]; omega), List.getElem?_eq_none (by rw [wipe_length]; omega)]
  · rw [wipe_get hj, h.2 j hj]
theorem rel_wipe {K : PySem.W.Frag} {C : Cfg} {Γ : List Bool} {g : Gh} {sl : List (Option D)} {S : Sto} {σ : L2.St} {H : Hp} (hca : C.cau = none) (r : Rel K C Γ g sl S σ H) (vs : List Nat) : Rel K C Γ g (wipeD sl vs) S (wipe σ vs) H :=
  ⟨r.sto, by rw [wipeD_length, wipe_length]; exact r.len, fun i d e q => by
    obtain ⟨h1, h2⟩ := wipeD_get e
    obtain ⟨v, k1, k2⟩ := r.slF i d h1 q
    exact ⟨v, by rw [wipe_get h2]; exact k1, k2⟩, fun i d e q => by
    obtain ⟨h1, h2⟩ := wipeD_get e
    obtain ⟨v, k1, k2⟩ := r.slO i d h1 q
    exact ⟨v, by rw [wipe_get h2]; exact k1, k2⟩, fun c q => by rw [hca] at q; cases q⟩

/-- an own exception may not leave a comprehension: the wish is False there -/
abbrev Jd.blk (J : Jd) : Jd := { J with W := fun _ _ _ _ => False }
def loopC (t : Tg) (tt : Mx Bool) (el : Mx D) (slw : List (Option D)) : List D → List D → Sto → Rx (List D)
  | [], acc, S => .ok acc S
  | d :: ds, acc, S => match t d slw with
    | none => .stuck
    | some sl' => match tt sl' S with
      | .ok true S1 => match el sl' S1 with
        | .ok y S2 => if acc.length < sizeLine then loopC t tt el slw ds (acc ++ [y]) S2 else .stuck
        | _ => .stuck
      | .ok false S1 => loopC t tt el slw ds acc S1
      | _ => .stuck
def mYes : Mx Bool := pureX true
def mLc (src : Mx (List D)) (t : Tg) (tt : Mx Bool) (el : Mx D) (vs : List Nat) : Mx D := fun sl S => match src sl S with
  | .ok ds S1 => match loopC t tt el (wipeD sl vs) ds [] S1 with
    | .ok ys S2 => .ok (.lst ys) S2
    | _ => .stuck
  | .err x S1 => .err x S1
  | .stuck => .stuck
/-- the tests of a comprehension -/
def STs (X : Cx) (J : Jd) (Γ : List Bool) (ifs : List Expr) (m : Mx Bool) (t : TT) : Prop := PTs X ifs t ∧ ∀ σ H Q, tDb X.K J Γ m σ H Q → t σ H Q
section
variable {X : Cx} {J : Jd} {Γ : List Bool} {e elt tg iter : Expr} {ta : Mx Bool}
theorem sts_nil : STs X J Γ [] mYes tYes := ⟨pts_nil, fun σ H Q q => by
  obtain ⟨g, sl, S, r, p⟩ := tDb_iff.mp q
  exact p g H Stp.refl r⟩
theorem sts_one (h : ST X J Γ e ta) : STs X J Γ [e] ta (tDb X.K J Γ ta) := ⟨pts_one h, fun _ _ _ q => q⟩

/-- the new list grows at Da while all else goes on -/
theorem lc_run {K : PySem.W.Frag} {σ : L2.St} {sl : List (Option D)} {g : Gh} {H : Hp} {S S' : Sto} {wi : TI} {gt : TG} {tt : TT} {te : TE} {vs : List Nat} {t : Tg} {mt : Mx Bool} {me : Mx D} {ds ys : List D} {Jt : It} {Q : VK} {C : Cfg} {W : WX} {lv : Bool} {Γ Γ' : List Bool} {Da : Addr} (hca : C.cau = none)
    (hw : WalkD K C (cE lv) g H Jt ds) (r : Rel K C Γ g sl S σ H) (hD : H Da = none)
    (hg : ∀ (g : Gh) (sl sl' : List (Option D)) (S : Sto) (σ : L2.St) (H : Hp) (d : D) (v : V) (Q : L2.St → Hp → Prop), Rel K C Γ g sl S σ H → Rep K C g.G g.ρ d v → t d sl = some sl' → (∀ σ', SetOnly vs σ σ' → Rel K C Γ' g sl' S σ' H → Q σ' H) → gt v σ H Q)
    (ht : ∀ σ H Q, tDb K ⟨C, fun _ _ _ _ => False, lv⟩ Γ' mt σ H Q → tt σ H Q) (he : ∀ σ H Q, tD K ⟨C, fun _ _ _ _ => False, lv⟩ Γ' me σ H Q → te σ H Q)
    (hl : loopC t mt me (wipeD sl vs) ds [] S = .ok ys S') (hQ : ∀ g' H' zs, Stp (cE lv) g H g' H' → StoOk K C g' H' S' → H' Da = some (.lst zs) → g'.own Da = none → g'.G Da = none → Reps K C g'.G g'.ρ ys zs → Q (.ref Da) H') :
    ∃ W : Nat → Nat → Hp → Prop, (∃ m, W 0 m (upd H Da (.lst []))) ∧ ∀ i m H, W i m H →
      (Jt.stop i H ∧ Q (.ref Da) H) ∨ (Jt.go i H ∧ ∃ Nx : Hp → Prop, (∀ H', Nx H' → ∃ m', m' < m ∧ W (i + 1) m' H') ∧ ∀ x H', Jt.yld i H x H' → gt x (wipe σ vs) H' fun σ2 H2 => wipe σ2 vs = wipe σ vs ∧ tt σ2 H2 fun b H3 =>
        if b = true then te σ2 H3 fun y H4 => ∃ acc, H4 Da = some (.lst acc) ∧ acc.length < sizeLine ∧ Nx (upd H4 Da (.lst (acc ++ [y]))) else Nx H3) := by
  obtain ⟨Gp, Y, w, hG, hY⟩ := hw
  have up : ∀ {g1 : Gh} {H1 : Hp} {zs ws : List V}, H1 Da = some (.lst zs) → g1.own Da = none → g1.G Da = none → Stp (cE lv) g H g1 H1 → Stp (cE lv) g H g1 (upd H1 Da (.lst ws)) := fun {g1 H1 zs ws} e1 e2 e3 st =>
    ⟨st.gG, fun a o h hc => by rw [upd_ne (ne_of_none h hD)]; exact st.fr a o h hc, fun a h => by
      by_cases z : a = Da
      · rw [z]; exact hD
      · rw [upd_ne z] at h; exact st.lv a h, st.ow, st.nw, st.ng, st.ro⟩
  have up2 : ∀ {g1 : Gh} {H1 : Hp} {zs ws : List V} {S1 : Sto}, H1 Da = some (.lst zs) → g1.own Da = none → g1.G Da = none → StoOk K C g1 H1 S1 → StoOk K C g1 (upd H1 Da (.lst ws)) S1 := fun {g1 H1 zs ws S1} e1 e2 e3 s => by
    have ne : ∀ {a w}, g1.own a = some w → a ≠ Da := fun {a w} h z => by rw [z, e2] at h; cases h
    refine sto_keep s (fun a o h => ?_) rfl (Same.refl _) (fun a w h => ⟨(s.fro a w h).1, by rw [upd_ne (ne h)]; exact (s.fro a w h).2⟩) fun a w h _ => ⟨h, by rw [upd_ne (ne h)]⟩
    have z : a ≠ Da := fun z => by rw [z, e3] at h; cases h
    rw [upd_ne z]; exact s.sub a o h
  refine lc_it w (fun i H1 => ∃ g1 S1 acc zs, Stp (cE lv) g H g1 H1 ∧ StoOk K C g1 H1 S1 ∧ H1 Da = some (.lst zs) ∧ g1.own Da = none ∧ g1.G Da = none ∧ Reps K C g1.G g1.ρ acc zs ∧ loopC t mt me (wipeD sl vs) (ds.drop i) acc S1 = .ok ys S')
    ?_ ?_ ?_ ?_
  · have own : g.own Da = none := by
      cases q : g.own Da with
      | none => rfl
      | some w => exact absurd hD (r.sto.fro _ _ q).2
    exact ⟨g, S, [], [], stp_new hD, sto_new r.sto hD, upd_same, own, r.sto.sub.free hD, .nil, hl⟩
  · rintro i H1 _ ⟨g1, S1, acc, zs, st, s1, _⟩
    exact hG g1 H1 st s1.sub
  · rintro i x H1 H2 hi ⟨g1, S1, acc, zs, st, s1, e1, e2, e3, e4, e5⟩ y
    have hd : ds[i]? = some ds[i] := by simp [hi]
    rw [List.drop_eq_getElem_cons hi] at e5
    obtain ⟨g2, st2, s2, rx⟩ := hY i g1 H1 x H2 S1 _ st s1 hd y
    have st12 : Stp (cE lv) g H g2 H2 := st.trans st2.toA
    have f2 : H2 Da = some (.lst zs) := st2.fr Da _ e1 fun w hw => by rw [e2] at hw; cases hw
    have o2 : g2.own Da = none := by
      cases q : g2.own Da with
      | none => rfl
      | some w =>
        rcases st2.nw _ _ q with z | z
        · rw [e2] at z; cases z
        · rw [e1] at z; cases z
    have G2 : g2.G Da = none := by
      cases q : g2.G Da with
      | none => rfl
      | some w =>
        rcases st2.ng _ _ q with z | z | ⟨w', z, _⟩
        · rw [e3] at z; cases z
        · rw [e1] at z; cases z
        · rw [e2] at z; cases z
    have rel2 : Rel K C Γ g2 (wipeD sl vs) S1 (wipe σ vs) H2 := (rel_wipe hca r vs).step st12 s2
    unfold loopC at e5
    cases et : t ds[i] (wipeD sl vs) with
    | none => rw [et] at e5; cases e5
    | some sl' =>
      rw [et] at e5
      refine hg g2 _ sl' S1 _ H2 _ x _ rel2 rx et fun σ' so rel' => ⟨wipe_wipe so, ht _ _ _ (tDb_iff.mpr ⟨g2, sl', S1, rel', ?_⟩)⟩
      have e5 : (match mt sl' S1 with
        | .ok true S1 => match me sl' S1 with
          | .ok y S2 => if acc.length < sizeLine then loopC t mt me (wipeD sl vs) (ds.drop (i + 1)) (acc ++ [y]) S2 else .stuck
          | _ => .stuck
        | .ok false S1 => loopC t mt me (wipeD sl vs) (ds.drop (i + 1)) acc S1
        | _ => .stuck) = .ok ys S' := e5
      have keep : ∀ {g3 : Gh} {H3 : Hp}, Stp (cE lv) g2 H2 g3 H3 → H3 Da = some (.lst zs) ∧ g3.own Da = none ∧ g3.G Da = none := fun {g3 H3} st3 => by
        refine ⟨st3.fr Da _ f2 (fun w hw => by rw [o2] at hw; cases hw), ?_, ?_⟩
        · cases q : g3.own Da with
          | none => rfl
          | some w =>
            rcases st3.nw _ _ q with z | z
            · rw [o2] at z; cases z
            · rw [f2] at z; cases z
        · cases q : g3.G Da with
          | none => rfl
          | some w =>
            rcases st3.ng _ _ q with z | z | ⟨w', z, _⟩
            · rw [G2] at z; cases z
            · rw [f2] at z; cases z
            · rw [o2] at z; cases z
      cases em : mt sl' S1 with
      | stuck => rw [em] at e5; cases e5
      | err x3 S3 => rw [em] at e5; cases e5
      | ok b S3 =>
        rw [em] at e5
        intro g3 H3 st3 rel3
        obtain ⟨k1, k2, k3⟩ := keep st3
        cases b with
        | false =>
          exact ⟨g3, S3, acc, zs, st12.trans st3, rel3.sto, k1, k2, k3, (e4.step st2).step st3, e5⟩
        | true =>
          refine he _ _ _ (tD_iff.mpr ⟨g3, sl', S3, rel3, ?_⟩)
          have e5 : (match me sl' S3 with
            | .ok y S2 => if acc.length < sizeLine then loopC t mt me (wipeD sl vs) (ds.drop (i + 1)) (acc ++ [y]) S2 else .stuck
            | _ => .stuck) = .ok ys S' := e5
          cases ee : me sl' S3 with
          | stuck => rw [ee] at e5; cases e5
          | err x3 S3 => rw [ee] at e5; cases e5
          | ok yd S4 =>
            rw [ee] at e5
            have e5 : (if acc.length < sizeLine then loopC t mt me (wipeD sl vs) (ds.drop (i + 1)) (acc ++ [yd]) S4 else .stuck) = .ok ys S' := e5
            split at e5
            · rename_i hsz
              intro g4 H4 v st4 rel4 rv
              have st24 : Stp (cE lv) g2 H2 g4 H4 := st3.trans st4
              obtain ⟨k4, k5, k6⟩ := keep st24
              refine ⟨zs, k4, by rw [← e4.length]; exact hsz, g4, S4, acc ++ [yd], zs ++ [v], up k4 k5 k6 (st12.trans st24), up2 k4 k5 k6 rel4.sto, upd_same, k5, k6, ((e4.step st2).step st24).append (.cons rv .nil), e5⟩
            · cases e5
  · rintro H1 ⟨g1, S1, acc, zs, st, s1, e1, e2, e3, e4, e5⟩
    rw [List.drop_length] at e5
    unfold loopC at e5
    cases e5
    exact hQ g1 H1 zs st s1 e1 e2 e3 e4
theorem lc_post {K : PySem.W.Frag} {σ : L2.St} {J : Jd} {Γ Γ' : List Bool} {ms : Mx (List D)} {t : Tg} {mt : Mx Bool} {me : Mx D} {vs : List Nat} {gt : TG} {tt : TT} {te : TE} {H : Hp} {Q : VK} {P : Gh → Hp → Rx D → Prop} {g : Gh} {sl : List (Option D)} {S : Sto}
    (hca : J.C.cau = none) (hP : Post K J Γ σ sl P) (r : Rel K J.C Γ g sl S σ H) (p : P g H (mLc ms t mt me vs sl S))
    (hg : ∀ (g : Gh) (sl sl' : List (Option D)) (S : Sto) (σ : L2.St) (H : Hp) (d : D) (v : V) (Q : L2.St → Hp → Prop), Rel K J.C Γ g sl S σ H → Rep K J.C g.G g.ρ d v → t d sl = some sl' → (∀ σ', SetOnly vs σ σ' → Rel K J.C Γ' g sl' S σ' H → Q σ' H) → gt v σ H Q)
    (ht : ∀ σ H Q, tDb K J.blk Γ' mt σ H Q → tt σ H Q) (he : ∀ σ H Q, tD K J.blk Γ' me σ H Q → te σ H Q)
    (hq : ∀ g' H' zs ys S' Da, Stp (cE J.lv) g H g' H' → Rel K J.C Γ g' sl S' σ H' → H Da = none → H' Da = some (.lst zs) → g'.own Da = none → g'.G Da = none → Reps K J.C g'.G g'.ρ ys zs → P g H (.ok (.lst ys) S') → Q (.ref Da) H') :
    tLc (tI K J (cE J.lv) Γ ms) gt tt te vs σ H Q := by
  refine ⟨g, sl, S, r, ?_⟩
  unfold mLc at p
  cases e : ms sl S with
  | stuck => rw [e] at p; exact hP.stuck _ _ p
  | err x S1 => rw [e] at p; exact hP.err _ _ _ _ p
  | ok ds S1 =>
    rw [e] at p
    have p : P g H (match loopC t mt me (wipeD sl vs) ds [] S1 with | .ok ys S2 => .ok (.lst ys) S2 | _ => .stuck) := p
    intro g1 H1 Jt st1 r1 hw Da hD
    cases el : loopC t mt me (wipeD sl vs) ds [] S1 with
    | stuck => rw [el] at p; exact (hP.stuck _ _ p).elim
    | err x S2 => rw [el] at p; exact (hP.stuck _ _ p).elim
    | ok ys S2 =>
      rw [el] at p
      exact lc_run (wi := tI K J (cE J.lv) Γ ms) (W := J.W) hca hw r1 hD hg ht he el fun g' H' zs st s e1 e2 e3 e4 => hq g' H' zs ys S2 Da (st1.trans st) (r1.step st s) (st1.lv _ hD) e1 e2 e3 e4 p
variable {ms : Mx (List D)} {t : Tg} {mt : Mx Bool} {me : Mx D} {vs : List Nat} {gt : TG} {tt : TT} {Γ' : List Bool} {ifs : List Expr} {scope : Scope} {own : List (Str × Nat)} {pos : Pos}
/-- freezing the list that was just made -/
theorem stp_froze {c : Ow → Bool} {g g1 : Gh} {H H1 : Hp} {p : Addr} {o : HO} (st : Stp c g H g1 H1) (hn : H p = none) (h1 : H1 p = some o) (ho : g1.own p = none) (hg : g1.G p = none) : Stp c g H (g1.frz p o) H1 :=
  ⟨fun a u h => by
    show upd g1.G p o a = _
    have z : a ≠ p := fun z => by have := st.gG a u h; rw [z, hg] at this; cases this
    rw [upd_ne z]; exact st.gG a u h, st.fr, st.lv, st.ow, st.nw, fun a u h => by
    by_cases z : a = p
    · exact .inr (.inl (by rw [z]; exact hn))
    · have h' : upd g1.G p o a = some u := h
      rw [upd_ne z] at h'; exact st.ng a u h', st.ro⟩
theorem sto_froze {K : PySem.W.Frag} {C : Cfg} {g : Gh} {H : Hp} {S : Sto} {p : Addr} {o : HO} (s : StoOk K C g H S) (h1 : H p = some o) (ho : g.own p = none) (hg : g.G p = none) : StoOk K C (g.frz p o) H S := by
  refine sto_keep s (fun a u h => ?_) rfl (fun a u h => ?_) (fun a w h => ⟨?_, (s.fro a w h).2⟩) fun a w h _ => ⟨h, rfl⟩
  · by_cases z : a = p
    · subst z
      have h' : upd g.G a o a = some u := h
      rw [upd_same] at h'; cases h'; exact h1
    · have h' : upd g.G p o a = some u := h
      rw [upd_ne z] at h'; exact s.sub a u h'
  · show upd g.G p o a = _
    have z : a ≠ p := fun z => by rw [z, hg] at h; cases h
    rw [upd_ne z]; exact h
  · show upd g.G p o a = none
    have h : g.own a = some w := h
    have z : a ≠ p := fun z => by rw [z, ho] at h; cases h
    rw [upd_ne z]; exact (s.fro a w h).1
theorem sd_lc (hc : X.calm = true) (hN : X.N.Nodup) (hi : SI X J (cE J.lv) Γ tg iter ms) (ok : BlkOk X.N X.env.scope scope own)
    (hg : ∀ (s : Shared) (H : Hp) (C : Addr) (cl : List (Str × Addr)) (fp : List Addr), STg (X.blk s H scope (compEnvC scope cl C X.env) fp) J.C Γ Γ' (own.map (·.2)) tg t gt)
    (ht : ∀ (s : Shared) (H : Hp) (C : Addr) (cl : List (Str × Addr)) (fp : List Addr), STs (X.blk s H scope (compEnvC scope cl C X.env) fp) J.blk Γ' ifs mt tt)
    (he : ∀ (s : Shared) (H : Hp) (C : Addr) (cl : List (Str × Addr)) (fp : List Addr), SD (X.blk s H scope (compEnvC scope cl C X.env) fp) J.blk Γ' elt me) (hs : ∀ x, foldedSetIterable iter X.env x = pure x := by intro _; rfl) (hca : J.C.cau = none := by rfl) :
    SD X J Γ (.ListComp elt [⟨tg, iter, ifs, 0⟩] scope pos) (mLc ms t mt me (own.map (·.2))) := by
  refine PE.imp (pe_lc (te := tD X.K J.blk Γ' me) hc hN hi ok (fun s H C cl fp => (hg s H C cl fp).1) (fun s H C cl fp => (ht s H C cl fp).1) he hs) fun σ H Q q => ?_
  obtain ⟨g, sl, S, r, p⟩ := tD_iff.mp q
  refine lc_post hca postD r p (hg X.s_0 X.H_0 X.env.locals [] []).2 (ht X.s_0 X.H_0 X.env.locals [] []).2 (fun _ _ _ z => z) fun g' H' zs ys S' Da st rl hD h1 h2 h3 h4 p => ?_
  have st' := stp_froze st hD h1 h2 h3
  exact p _ H' _ st' (r.step st' (sto_froze rl.sto h1 h2 h3)) (.lst (.of upd_same) (h4.mono (fun a u h => by
    have z : a ≠ Da := fun z => by rw [z, h3] at h; cases h
    show upd g'.G Da _ a = _
    rw [upd_ne z]; exact h) fun _ _ z => z))
theorem sn_lc (hc : X.calm = true) (hN : X.N.Nodup) (hi : SI X J (cE J.lv) Γ tg iter ms) (ok : BlkOk X.N X.env.scope scope own)
    (hg : ∀ (s : Shared) (H : Hp) (C : Addr) (cl : List (Str × Addr)) (fp : List Addr), STg (X.blk s H scope (compEnvC scope cl C X.env) fp) J.C Γ Γ' (own.map (·.2)) tg t gt)
    (ht : ∀ (s : Shared) (H : Hp) (C : Addr) (cl : List (Str × Addr)) (fp : List Addr), STs (X.blk s H scope (compEnvC scope cl C X.env) fp) J.blk Γ' ifs mt tt)
    (he : ∀ (s : Shared) (H : Hp) (C : Addr) (cl : List (Str × Addr)) (fp : List Addr), SD (X.blk s H scope (compEnvC scope cl C X.env) fp) J.blk Γ' elt me) (hs : ∀ x, foldedSetIterable iter X.env x = pure x := by intro _; rfl) (hca : J.C.cau = none := by rfl) :
    SN X J Γ (.ListComp elt [⟨tg, iter, ifs, 0⟩] scope pos) (mLc ms t mt me (own.map (·.2))) := by
  refine PE.imp (pe_lc (te := tD X.K J.blk Γ' me) hc hN hi ok (fun s H C cl fp => (hg s H C cl fp).1) (fun s H C cl fp => (ht s H C cl fp).1) he hs) fun σ H Q q => ?_
  obtain ⟨g, sl, S, r, p⟩ := tNw_iff.mp q
  exact lc_post hca postN r p (hg X.s_0 X.H_0 X.env.locals [] []).2 (ht X.s_0 X.H_0 X.env.locals [] []).2 (fun _ _ _ z => z) fun g' H' zs ys S' Da st rl hD h1 h2 h3 h4 p =>
    p _ H' _ st rl ⟨Da, rfl, h2, h3, zs, h1, h4⟩ fun p hp => by cases hp; exact hD
end
end Sm
set_option Elab.async false
set_option linter.all false
set_option maxRecDepth 100000
set_option maxHeartbeats 1000000
/-! Sim 6: statements. -/
namespace Sm
open PySem PySem.Spec PyProof.Rows L2

/-! ### posts of statements -/
def PSt (K : PySem.W.Frag) (B : Js) (Γ' : List Bool) (E : Ends) (g : Gh) (H : Hp) : Rs → Prop
  | .next sl' S' => ∀ g' H' σ', Stp (cS B.J.lv) g H g' H' → Rel K B.J.C Γ' g' sl' S' σ' H' → E.nx σ' H'
  | .ret d S' => ∀ g' H' v, Stp (cS B.J.lv) g H g' H' → StoOk K B.J.C g' H' S' → RepR K B.J.C B.fresh g' H' d v → E.rt v H'
  | .brk sl' S' => ∀ g' H' σ', Stp (cS B.J.lv) g H g' H' → Rel K B.J.C B.ΓL g' sl' S' σ' H' → E.bk σ' H'
  | .cont sl' S' => ∀ g' H' σ', Stp (cS B.J.lv) g H g' H' → Rel K B.J.C B.ΓL g' sl' S' σ' H' → E.ct σ' H'
  | .err x sl' S' => ∀ g' H' σ' cls dx, Stp (cS B.J.lv) g H g' H' → Rel K B.J.C B.ΓX g' sl' S' σ' H' → RepX K B.J.C g' x cls dx → B.J.W cls dx σ' H'
  | .stuck => False
section
variable {K : PySem.W.Frag} {B : Js} {Γ Γ' Γ1 : List Bool} {E : Ends} {σ : L2.St} {sl : List (Option D)} {g : Gh} {H : Hp} {S : Sto}
theorem tSt_iff {m : Ms} : tSt K B Γ Γ' m E σ H ↔ ∃ g sl S, Rel K B.J.C Γ g sl S σ H ∧ PSt K B Γ' E g H (m sl S) := by
  constructor
  · rintro ⟨g, sl, S, r, h⟩
    exact ⟨g, sl, S, r, by cases e : m sl S <;> (rw [e] at h; exact h)⟩
  · rintro ⟨g, sl, S, r, h⟩
    exact ⟨g, sl, S, r, by cases e : m sl S <;> (rw [e] at h; exact h)⟩
theorem PSt.step {g1 : Gh} {H1 : Hp} {r : Rs} (st : Stp (cS B.J.lv) g H g1 H1) (h : PSt K B Γ' E g H r) : PSt K B Γ' E g1 H1 r := by
  cases r with
  | next sl S => exact fun g' H' σ' s r => h g' H' σ' (st.trans s) r
  | ret d S => exact fun g' H' v s r e => h g' H' v (st.trans s) r e
  | brk sl S => exact fun g' H' σ' s r => h g' H' σ' (st.trans s) r
  | cont sl S => exact fun g' H' σ' s r => h g' H' σ' (st.trans s) r
  | err x sl S => exact fun g' H' σ' cls dx s r e => h g' H' σ' cls dx (st.trans s) r e
  | stuck => exact h
/-- what Γ says of i is at least what a says -/
def leG (a b : List Bool) : Bool := (List.range a.length).all fun i => !a.getD i false || b.getD i false
theorem leG_at {a b : List Bool} (h : leG a b = true) (i : Nat) (e : a.getD i false = true) : b.getD i false = true := by
  unfold leG at h
  by_cases hi : i < a.length
  · have q := List.all_eq_true.mp h i (List.mem_range.mpr hi)
    rw [e] at q
    simpa using q
  · have : a.getD i false = false := by simp [List.getD, List.getElem?_eq_none (Nat.le_of_not_lt hi)]
    rw [this] at e; cases e
/-- slots that are no longer the frame's own -/
def Gh.let (g : Gh) (H : Hp) (Γ : List Bool) : Gh where
  G := fun a => match g.own a with
    | some (.slot i) => if Γ.getD i false = true then g.G a else H a
    | _ => g.G a
  ρ := g.ρ
  own := fun a => match g.own a with
    | some (.slot i) => if Γ.getD i false = true then g.own a else none
    | o => o
theorem let_own {a : Addr} {w : Ow} (h : (g.let H Γ1).own a = some w) : g.own a = some w ∧ ∀ i, w = .slot i → Γ1.getD i false = true := by
  unfold Gh.let at h
  simp only at h
  split at h
  · rename_i i e
    split at h
    · rename_i c
      refine ⟨h, fun j z => ?_⟩
      rw [e] at h; cases h; cases z; exact c
    · cases h
  · rename_i e
    exact ⟨h, fun j z => by rw [z] at h; exact absurd h (e j)⟩
theorem let_own' {a : Addr} {w : Ow} (h : g.own a = some w) (k : ∀ i, w = .slot i → Γ1.getD i false = true) : (g.let H Γ1).own a = some w := by
  unfold Gh.let
  simp only
  rw [h]
  cases w with
  | slot i => simp only; rw [if_pos (k i rfl)]
  | _ => rfl
theorem let_G {C : Cfg} (s : StoOk K C g H S) : Same g.G (g.let H Γ1).G := fun a o h => by
  have q : g.own a = none := by
    cases e : g.own a with
    | none => rfl
    | some w => have := (s.fro a w e).1; rw [h] at this; cases this
  show (match g.own a with | some (.slot i) => if Γ1.getD i false = true then g.G a else H a | _ => g.G a) = some o
  rw [q]; exact h
theorem let_stp {C : Cfg} {lv : Bool} (s : StoOk K C g H S) : Stp (cS lv) g H (g.let H Γ1) H where
  gG := let_G s
  fr := fun _ _ h _ => h
  lv := fun _ h => h
  ow := fun a w h hc => let_own' h fun i z => by rw [z] at hc; cases hc
  nw := fun a w h => .inl (let_own h).1
  ng := fun a o h => by
    have h' : (match g.own a with | some (.slot i) => if Γ1.getD i false = true then g.G a else H a | _ => g.G a) = some o := h
    split at h'
    · rename_i i e
      exact .inr (.inr ⟨_, e, rfl⟩)
    · exact .inl h'
  ro := fun _ _ h => h
theorem let_sto {C : Cfg} (s : StoOk K C g H S) : StoOk K C (g.let H Γ1) H S := by
  refine sto_keep s (fun a o h => ?_) rfl (let_G s) (fun a w h => ?_) fun a w h hw => ⟨let_own' h fun i z => absurd z (hw i), rfl⟩
  · have h' : (match g.own a with | some (.slot i) => if Γ1.getD i false = true then g.G a else H a | _ => g.G a) = some o := h
    split at h'
    · split at h'
      · exact s.sub a o h'
      · exact h'
    · exact s.sub a o h'
  · obtain ⟨h1, h2⟩ := let_own h
    refine ⟨?_, (s.fro a w h1).2⟩
    show (match g.own a with | some (.slot i) => if Γ1.getD i false = true then g.G a else H a | _ => g.G a) = none
    rw [h1]
    cases w with
    | slot i => simp only; rw [if_pos (h2 i rfl)]; exact (s.fro a _ h1).1
    | _ => exact (s.fro a _ h1).1
theorem cell_rep {C : Cfg} {p : Addr} {d : D} (h : Cell K C g H p d) (e : g.G p = H p) : Rep K C g.G g.ρ d (.ref p) := by
  cases d <;> first | exact False.elim h | skip
  · obtain ⟨vs, q, r⟩ := h; exact .lst (.of (by rw [e]; exact q)) r
  · obtain ⟨vs, q, r⟩ := h; exact .dK (by rw [e]; exact q) r
  · obtain ⟨vs, q, r⟩ := h; exact .dT (by rw [e]; exact q) r
theorem rel_let {C : Cfg} (r : Rel K C Γ g sl S σ H) (h : leG Γ1 Γ = true) : Rel K C Γ1 (g.let H Γ1) sl S σ H := by
  have hG := let_G (Γ1 := Γ1) r.sto
  refine ⟨let_sto r.sto, r.len, fun i d e q => ?_, fun i d e q => ?_, cau_mono hG (fun _ _ z => z) r.cau⟩
  · by_cases c : Γ.getD i false = true
    · obtain ⟨p, h1, h2, h3⟩ := r.slO i d e c
      refine ⟨.ref p, h1, cell_rep (h3.mono rfl hG fun _ _ z => z) ?_⟩
      show (match g.own p with | some (.slot i) => if Γ1.getD i false = true then g.G p else H p | _ => g.G p) = H p
      rw [h2]
      simp only
      rw [if_neg (by rw [q]; exact Bool.false_ne_true)]
    · obtain ⟨v, h1, h2⟩ := r.slF i d e (by simpa using c)
      exact ⟨v, h1, h2.mono hG fun _ _ z => z⟩
  · obtain ⟨p, h1, h2, h3⟩ := r.slO i d e (leG_at h i q)
    exact ⟨p, h1, let_own' h2 (fun j z => by cases z; exact q), h3.mono rfl hG fun _ _ z => z⟩
theorem RepX.step {C : Cfg} {c : Ow → Bool} {g' : Gh} {H' : Hp} {x : Exc} {cls : Value} {dx : Option Addr} (h : RepX K C g x cls dx) (st : Stp c g H g' H') : RepX K C g' x cls dx := by
  exact h.mono st.gG st.ro
/-- an error of a part -/
theorem PSt.err {x : Exc} {S' : Sto} (h : PSt K B Γ' E g H (.err x sl S')) (hX : leG B.ΓX Γ = true) : PErr K B.J Γ σ sl g H x S' := fun g' H' cls dx st r e => by
  have st2 := let_stp (Γ1 := B.ΓX) (lv := B.J.lv) r.sto
  exact h _ _ _ cls dx (st.toS.trans st2) (rel_let r hX) (e.step st2)
end

/-! ### parts of a statement -/
section
variable {α : Type}
def bindS (m : Mx α) (k : α → Ms) : Ms := fun sl S => match m sl S with
  | .ok a S' => k a sl S'
  | .err x S' => .err x sl S'
  | .stuck => .stuck
end
section
variable {K : PySem.W.Frag} {B : Js} {Γ Γ' Γ1 : List Bool} {E : Ends} {σ : L2.St} {sl : List (Option D)} {g : Gh} {H : Hp} {S : Sto}
theorem csD {m : Mx D} {k : D → Ms} {R : VK} (r : Rel K B.J.C Γ g sl S σ H) (h : PSt K B Γ' E g H (bindS m k sl S)) (hX : leG B.ΓX Γ = true)
    (f : ∀ g1 H1 d S1 x, Stp (cE B.J.lv) g H g1 H1 → Rel K B.J.C Γ g1 sl S1 σ H1 → Rep K B.J.C g1.G g1.ρ d x → PSt K B Γ' E g1 H1 (k d sl S1) → R x H1) : tD K B.J Γ m σ H R := by
  refine tD_iff.mpr ⟨g, sl, S, r, ?_⟩
  unfold bindS at h
  cases e : m sl S with
  | ok d S' => rw [e] at h; exact fun g' H' v s r' b => f g' H' d S' v s r' b (PSt.step s.toS h)
  | err x S' => rw [e] at h; exact h.err hX
  | stuck => rw [e] at h; exact h
theorem csB {m : Mx D} {k : D → Ms} {R : VK} (r : Rel K B.J.C Γ g sl S σ H) (h : PSt K B Γ' E g H (bindS m k sl S)) (hX : leG B.ΓX Γ = true)
    (f : ∀ g1 H1 d S1 x, Stp (cE B.J.lv) g H g1 H1 → Rel K B.J.C Γ g1 sl S1 σ H1 → RepB K B.J g1 H1 d x → PSt K B Γ' E g1 H1 (k d sl S1) → R x H1) : tBo K B.J Γ m σ H R := by
  refine tBo_iff.mpr ⟨g, sl, S, r, ?_⟩
  unfold bindS at h
  cases e : m sl S with
  | ok d S' => rw [e] at h; exact fun g' H' v s r' b => f g' H' d S' v s r' b (PSt.step s.toS h)
  | err x S' => rw [e] at h; exact h.err hX
  | stuck => rw [e] at h; exact h
theorem csN {m : Mx D} {k : D → Ms} {R : VK} (r : Rel K B.J.C Γ g sl S σ H) (h : PSt K B Γ' E g H (bindS m k sl S)) (hX : leG B.ΓX Γ = true)
    (f : ∀ g1 H1 d S1 x, Stp (cE B.J.lv) g H g1 H1 → Rel K B.J.C Γ g1 sl S1 σ H1 → RepN K B.J.C g1 H1 d x → (∀ p, x = .ref p → H p = none) → PSt K B Γ' E g H (k d sl S1) → R x H1) : tNw K B.J Γ m σ H R := by
  refine tNw_iff.mpr ⟨g, sl, S, r, ?_⟩
  unfold bindS at h
  cases e : m sl S with
  | ok d S' => rw [e] at h; exact fun g' H' v s r' b n => f g' H' d S' v s r' b n h
  | err x S' => rw [e] at h; exact h.err hX
  | stuck => rw [e] at h; exact h
theorem csDs {m : Mx (List D)} {k : List D → Ms} {R : List V → Hp → Prop} (r : Rel K B.J.C Γ g sl S σ H) (h : PSt K B Γ' E g H (bindS m k sl S)) (hX : leG B.ΓX Γ = true)
    (f : ∀ g1 H1 d S1 x, Stp (cE B.J.lv) g H g1 H1 → Rel K B.J.C Γ g1 sl S1 σ H1 → Reps K B.J.C g1.G g1.ρ d x → PSt K B Γ' E g1 H1 (k d sl S1) → R x H1) : tDs K B.J Γ m σ H R := by
  refine tDs_iff.mpr ⟨g, sl, S, r, ?_⟩
  unfold bindS at h
  cases e : m sl S with
  | ok d S' => rw [e] at h; exact fun g' H' v s r' b => f g' H' d S' v s r' b (PSt.step s.toS h)
  | err x S' => rw [e] at h; exact h.err hX
  | stuck => rw [e] at h; exact h
theorem csT {m : Mx Bool} {k : Bool → Ms} {R : Bool → Hp → Prop} (r : Rel K B.J.C Γ g sl S σ H) (h : PSt K B Γ' E g H (bindS m k sl S)) (hX : leG B.ΓX Γ = true)
    (f : ∀ g1 H1 d S1, Stp (cE B.J.lv) g H g1 H1 → Rel K B.J.C Γ g1 sl S1 σ H1 → PSt K B Γ' E g1 H1 (k d sl S1) → R d H1) : tDb K B.J Γ m σ H R := by
  refine tDb_iff.mpr ⟨g, sl, S, r, ?_⟩
  unfold bindS at h
  cases e : m sl S with
  | ok d S' => rw [e] at h; exact fun g' H' s r' => f g' H' d S' s r' (PSt.step s.toS h)
  | err x S' => rw [e] at h; exact h.err hX
  | stuck => rw [e] at h; exact h
theorem csI {m : Mx (List D)} {k : List D → Ms} {R : It → Hp → Prop} {c : Ow → Bool} (r : Rel K B.J.C Γ g sl S σ H) (h : PSt K B Γ' E g H (bindS m k sl S)) (hX : leG B.ΓX Γ = true)
    (f : ∀ g1 H1 d S1 Jt, Stp (cE B.J.lv) g H g1 H1 → Rel K B.J.C Γ g1 sl S1 σ H1 → WalkD K B.J.C c g1 H1 Jt d → PSt K B Γ' E g1 H1 (k d sl S1) → R Jt H1) : tI K B.J c Γ m σ H R := by
  refine ⟨g, sl, S, r, ?_⟩
  unfold bindS at h
  cases e : m sl S with
  | ok d S' => rw [e] at h; exact fun g' H' v s r' b => f g' H' d S' v s r' b (PSt.step s.toS h)
  | err x S' => rw [e] at h; exact h.err hX
  | stuck => rw [e] at h; exact h
end

/-! ### the statements -/
def mSkip : Ms := fun sl S => .next sl S
def mSq (a b : Ms) : Ms := fun sl S => match a sl S with
  | .next sl' S' => b sl' S'
  | r => r
def mPut (t : Tg) (me : Mx D) : Ms := bindS me fun d sl S => match t d sl with
  | some sl' => .next sl' S
  | none => .stuck
def mOwn (i : Nat) (me : Mx D) : Ms := bindS me fun d sl S => if i < sl.length then .next (sl.set i (some d)) S else .stuck
def mDo (me : Mx D) : Ms := bindS me fun _ sl S => .next sl S
def mRet (me : Mx D) : Ms := bindS me fun d _ S => .ret d S
def mRetN : Ms := fun _ S => .ret .non S
def mIf (c : Mx Bool) (a b : Ms) : Ms := bindS c fun k => if k = true then a else b
def mBrk : Ms := fun sl S => .brk sl S
def mCont : Ms := fun sl S => .cont sl S
section
variable {X : Cx} {B : Js} {Γ Γ' Γ1 Γ2 : List Bool} {st : Stmt} {sts : List Stmt} {m m1 m2 : Ms} {e tg c iter : Expr} {me ma : Mx D} {mt : Mx Bool} {pos : Pos} {t : Tg} {gt : TG} {vs : List Nat}
theorem ss_let (hle : leG Γ1 Γ = true) (h : SS X B Γ1 Γ' st m) : SS X B Γ Γ' st m := PS.imp h fun E σ H q => by
  obtain ⟨g, sl, S, r, p⟩ := tSt_iff.mp q
  exact tSt_iff.mpr ⟨_, sl, S, rel_let r hle, PSt.step (let_stp r.sto) p⟩
theorem PSt.let {K : PySem.W.Frag} {E : Ends} {g : Gh} {H : Hp} {r : Rs} (hle : leG Γ2 Γ1 = true) (p : PSt K B Γ2 E g H r) : PSt K B Γ1 E g H r := by
  cases r with
  | next sl S => exact fun g' H' σ' s r => p _ _ _ (s.trans (let_stp r.sto)) (rel_let r hle)
  | ret d S => exact p
  | brk sl S => exact p
  | cont sl S => exact p
  | err x sl S => exact p
  | stuck => exact p
theorem ss_end (hle : leG Γ2 Γ1 = true) (h : SS X B Γ Γ1 st m) : SS X B Γ Γ2 st m := PS.imp h fun E σ H q => by
  obtain ⟨g, sl, S, r, p⟩ := tSt_iff.mp q
  exact tSt_iff.mpr ⟨_, sl, S, r, PSt.let hle p⟩
theorem sss_end (hle : leG Γ2 Γ1 = true) (h : SSs X B Γ Γ1 sts m) : SSs X B Γ Γ2 sts m := PSs.imp h fun E σ H q => by
  obtain ⟨g, sl, S, r, p⟩ := tSt_iff.mp q
  exact tSt_iff.mpr ⟨_, sl, S, r, PSt.let hle p⟩
theorem sss_nil : SSs X B Γ Γ [] mSkip := PSs.imp pss_nil fun E σ H q => by
  obtain ⟨g, sl, S, r, p⟩ := tSt_iff.mp q
  exact p g H σ Stp.refl r
theorem seq_run {K : PySem.W.Frag} {E : Ends} {σ : L2.St} {H : Hp} (q : tSt K B Γ Γ2 (mSq m1 m2) E σ H) : tSt K B Γ Γ1 m1 { E with nx := tSt K B Γ1 Γ2 m2 E } σ H := by
  obtain ⟨g, sl, S, r, p⟩ := tSt_iff.mp q
  refine tSt_iff.mpr ⟨g, sl, S, r, ?_⟩
  unfold mSq at p
  cases em : m1 sl S with
  | next sl' S' => rw [em] at p; exact fun g' H' σ' s r' => tSt_iff.mpr ⟨g', sl', S', r', PSt.step s p⟩
  | ret d S' => rw [em] at p; exact p
  | brk sl' S' => rw [em] at p; exact p
  | cont sl' S' => rw [em] at p; exact p
  | err x sl' S' => rw [em] at p; exact p
  | stuck => rw [em] at p; exact p
theorem sss_cons (h1 : SS X B Γ Γ1 st m1) (h2 : SSs X B Γ1 Γ2 sts m2) : SSs X B Γ Γ2 (st :: sts) (mSq m1 m2) := PSs.imp (pss_cons h1 h2) fun E σ H q => seq_run q
theorem sss_one (h1 : SS X B Γ Γ1 st m1) : SSs X B Γ Γ1 [st] m1 := pss_one h1
theorem ss_pass : SS X B Γ Γ (.Pass pos) mSkip := PS.imp ps_pass fun E σ H q => by
  obtain ⟨g, sl, S, r, p⟩ := tSt_iff.mp q
  exact p g H σ Stp.refl r
theorem ss_doc {x : Str} {j : Nat} {pos' : Pos} : SS X B Γ Γ (.Expr (.Constant (.str x) j pos) pos') mSkip := PS.imp ps_doc fun E σ H q => by
  obtain ⟨g, sl, S, r, p⟩ := tSt_iff.mp q
  exact p g H σ Stp.refl r
theorem ss_brk (hl : leG B.ΓL Γ = true := by rfl) : SS X B Γ Γ' (.Break pos) mBrk := PS.imp ps_break fun E σ H q => by
  obtain ⟨g, sl, S, r, p⟩ := tSt_iff.mp q
  exact p _ H σ (let_stp r.sto) (rel_let r hl)
theorem ss_cont (hl : leG B.ΓL Γ = true := by rfl) : SS X B Γ Γ' (.Continue pos) mCont := PS.imp ps_continue fun E σ H q => by
  obtain ⟨g, sl, S, r, p⟩ := tSt_iff.mp q
  exact p _ H σ (let_stp r.sto) (rel_let r hl)
theorem ss_expr (he : SD X B.J Γ e me) (hX : leG B.ΓX Γ = true := by rfl) (hs : swapsWith e none pos.line X.env = pure false := by rfl) : SS X B Γ Γ (.Expr e pos) (mDo me) :=
  PS.imp (ps_expr he hs) fun E σ H q => by
    obtain ⟨g, sl, S, r, p⟩ := tSt_iff.mp q
    exact csD r p hX fun g1 H1 d S1 x st1 r1 b1 p1 => p1 g1 H1 σ Stp.refl r1
theorem ss_ret (he : SD X B.J Γ e me) (hf : B.fresh = false := by rfl) (hX : leG B.ΓX Γ = true := by rfl) : SS X B Γ Γ' (.Return (some e) pos) (mRet me) :=
  PS.imp (ps_ret he) fun E σ H q => by
    obtain ⟨g, sl, S, r, p⟩ := tSt_iff.mp q
    exact csD r p hX fun g1 H1 d S1 x st1 r1 b1 p1 => p1 g1 H1 x Stp.refl r1.sto (by unfold RepR; rw [hf, if_neg Bool.false_ne_true]; exact b1)
theorem ss_retN (hf : B.fresh = false := by rfl) : SS X B Γ Γ' (.Return none pos) mRetN :=
  PS.imp ps_retN fun E σ H q => by
    obtain ⟨g, sl, S, r, p⟩ := tSt_iff.mp q
    exact p g H .non Stp.refl r.sto (by unfold RepR; rw [hf, if_neg Bool.false_ne_true]; exact .non)
/-- return of the frame's own list -/
theorem ss_retO (i : Nat) {x : Str} {p2 : Pos} (hf : B.fresh = true := by rfl) (hΓ : Γ.getD i false = true := by rfl) (hX : leG B.ΓX Γ = true := by rfl) (hN : X.N[i]? = some x := by rfl) (hv : Vis X.env.scope x := by first | exact Or.inl rfl | exact Or.inr (Or.inl rfl) | exact Or.inr (Or.inr rfl)) (hd : (x == ("__debug__" : Str)) = false := by decide)
    (hcd : (x == ("__classdict__" : Str)) = false := by decide) : SS X B Γ Γ' (.Return (some (.Name x p2)) pos) (mRet (mVar i)) :=
  PS.imp (ps_ret (pe_var hN hv hd hcd)) fun E σ H q => by
    obtain ⟨g, sl, S, r, p⟩ := tSt_iff.mp q
    unfold mRet bindS mVar at p
    cases e : sl[i]? with
    | none => rw [e] at p; exact False.elim p
    | some od =>
      cases od with
      | none => rw [e] at p; exact False.elim p
      | some d =>
        rw [e] at p
        obtain ⟨a, h1, h2, h3⟩ := r.slO i d e hΓ
        exact ⟨.ref a, h1, p g H _ Stp.refl r.sto (by unfold RepR; rw [hf, if_pos rfl]; exact ⟨a, rfl, ⟨i, h2⟩, h3⟩)⟩
/-- claiming a fresh cell -/
def Gh.claim (g : Gh) (p : Addr) (w : Ow) : Gh := { g with own := fun a => if a = p then some w else g.own a }
theorem claim_stp {c : Ow → Bool} {g g1 : Gh} {H H1 : Hp} {p : Addr} {w : Ow} (st : Stp c g H g1 H1) (hn : H p = none) (ho : g1.own p = none) : Stp c g H (g1.claim p w) H1 :=
  ⟨st.gG, st.fr, st.lv, fun a u h hc => by
    have q := st.ow a u h hc
    show (if a = p then some w else g1.own a) = some u
    rw [if_neg (fun z => by rw [z, ho] at q; cases q)]; exact q, fun a u h => by
    by_cases z : a = p
    · exact .inr (by rw [z]; exact hn)
    · have h' : (if a = p then some w else g1.own a) = some u := h
      rw [if_neg z] at h'; exact st.nw a u h', st.ng, st.ro⟩
theorem claim_sto {K : PySem.W.Frag} {C : Cfg} {g : Gh} {H : Hp} {S : Sto} {p : Addr} {w : Ow} (s : StoOk K C g H S) (ho : g.own p = none) (hG : g.G p = none) (hH : H p ≠ none) : StoOk K C (g.claim p w) H S := by
  refine sto_keep s s.sub rfl (Same.refl _) (fun a u h => ?_) fun a u h _ => ⟨?_, rfl⟩
  · by_cases z : a = p
    · rw [z]; exact ⟨hG, hH⟩
    · have h' : (if a = p then some w else g.own a) = some u := h
      rw [if_neg z] at h'; exact s.fro a u h'
  · show (if a = p then some w else g.own a) = some u
    rw [if_neg (fun z => by rw [z, ho] at h; cases h)]; exact h
theorem ss_retNw (he : SN X B.J Γ e me) (hf : B.fresh = true := by rfl) (hX : leG B.ΓX Γ = true := by rfl) : SS X B Γ Γ' (.Return (some e) pos) (mRet me) :=
  PS.imp (ps_ret he) fun E σ H q => by
    obtain ⟨g, sl, S, r, p⟩ := tSt_iff.mp q
    refine csN r p hX fun g1 H1 d S1 x st1 r1 b1 n1 p1 => ?_
    obtain ⟨a, rfl, h1, h2, h3⟩ := b1
    obtain ⟨o, ho⟩ := h3.there
    refine p1 (g1.claim a (.slot 0)) H1 _ (claim_stp st1.toS (n1 a rfl) h1) (claim_sto r1.sto h1 h2 (by rw [ho]; exact fun z => by cases z)) ?_
    unfold RepR
    rw [hf, if_pos rfl]
    exact ⟨a, rfl, ⟨0, by show (if a = a then _ else _) = _; rw [if_pos rfl]⟩, h3.mono rfl (Same.refl _) fun _ _ z => z⟩
theorem ss_if {a b : List Stmt} (hc : ST X B.J Γ c mt) (ha : SSs X B Γ Γ' a m1) (hb : SSs X B Γ Γ' b m2) (hX : leG B.ΓX Γ = true := by rfl) : SS X B Γ Γ' (.If c a b pos) (mIf mt m1 m2) :=
  PS.imp (ps_if hc ha hb) fun E σ H q => by
    obtain ⟨g, sl, S, r, p⟩ := tSt_iff.mp q
    refine csT r p hX fun g1 H1 d S1 st1 r1 p1 => ?_
    cases d with
    | true => exact tSt_iff.mpr ⟨g1, sl, S1, r1, p1⟩
    | false => exact tSt_iff.mpr ⟨g1, sl, S1, r1, p1⟩
theorem put_run {K : PySem.W.Frag} {E : Ends} {σ : L2.St} {H : Hp} {te : TE} (hK : K = X.K) (he : ∀ σ H Q, tD K B.J Γ me σ H Q → te σ H Q) (hg : STg X B.J.C Γ Γ' vs tg t gt) (hX : leG B.ΓX Γ = true) (q : tSt K B Γ Γ' (mPut t me) E σ H) : tAsg te gt E σ H := by
  subst hK
  obtain ⟨g, sl, S, r, p⟩ := tSt_iff.mp q
  refine he _ _ _ (csD r p hX fun g1 H1 d S1 x st1 r1 b1 p1 => ?_)
  cases et : t d sl with
  | none => rw [et] at p1; exact False.elim p1
  | some sl' =>
    rw [et] at p1
    exact hg.2 g1 sl sl' S1 σ H1 d x _ r1 b1 et fun σ' _ r' => p1 g1 H1 σ' Stp.refl r'
/-- target = value, the target a tuple -/
theorem ss_asg (hg : STg X B.J.C Γ Γ' vs tg t gt) (he : SD X B.J Γ e me) (hX : leG B.ΓX Γ = true := by rfl) (hs : swapsWithSole [tg] e pos.line X.env = pure false := by rfl) (hw : swappedStores [tg] e X.env = pure none := by rfl)
    (h1 : (assignEach [tg] X.env).map (·.2) = [assign tg X.env] := by rfl) : SS X B Γ Γ' (.Assign [tg] e pos) (mPut t me) :=
  PS.imp (ps_asg he hg.1 hs hw h1) fun E σ H q => put_run rfl (fun _ _ _ z => z) hg hX q
/-- name = value -/
theorem ss_set (i : Nat) {x : Str} {pos' : Pos} (hN : X.N.Nodup) (he : SD X B.J Γ e me) (hΓ : Γ.getD i false = false := by rfl) (hX : leG B.ΓX Γ = true := by rfl) (hi : X.N[i]? = some x := by rfl) (hx : Loc X.env.scope x := by first | exact Or.inl rfl | exact Or.inr rfl)
    (hs : swapsWith e (some (.Name x pos')) pos.line X.env = pure false := by rfl) (hf : X.fn x = true ∨ X.env.scope.names.lookup x = some .local := by first | exact .inl rfl | exact .inr rfl | assumption) : SS X B Γ Γ (.Assign [.Name x pos'] e pos) (mPut (tName i) me) :=
  PS.imp (ps_set hN hi hx he hs hf) fun E σ H q => put_run rfl (fun _ _ _ z => z) (tg_name (pos := pos') i hN hΓ hi hx hf) hX q
theorem getD_set_true {i j : Nat} (hi : i < Γ.length) : (Γ.set i true).getD j false = if j = i then true else Γ.getD j false := by
  simp only [List.getD_eq_getElem?_getD]
  by_cases z : j = i
  · subst z; rw [List.getElem?_set_self hi, if_pos rfl]; rfl
  · rw [List.getElem?_set_ne (fun q => z q.symm), if_neg z]
theorem rel_claim {K : PySem.W.Frag} {C : Cfg} {g : Gh} {sl : List (Option D)} {S : Sto} {σ : L2.St} {H : Hp} {i : Nat} {d : D} {p : Addr} (r : Rel K C Γ g sl S σ H) (ho : g.own p = none) (hG : g.G p = none) (hc : Cell K C g H p d) (hi : i < Γ.length) :
    Rel K C (Γ.set i true) (g.claim p (.slot i)) (sl.set i (some d)) S (σ.set i (some (.ref p))) H := by
  obtain ⟨o, hp⟩ := hc.there
  refine ⟨claim_sto r.sto ho hG (by rw [hp]; exact fun z => by cases z), by rw [List.length_set, List.length_set]; exact r.len, fun j e q hj => ?_, fun j e q hj => ?_, fun c q => ⟨fun hj => cau_set (r.cau c q).1 hj, (r.cau c q).2⟩⟩
  · rw [getD_set_true hi] at hj
    by_cases z : j = i
    · rw [if_pos z] at hj; cases hj
    · rw [if_neg z] at hj
      rw [List.getElem?_set_ne (fun q => z q.symm)] at q ⊢
      exact r.slF j e q hj
  · by_cases z : j = i
    · subst z
      have hl : j < sl.length := by
        have := (List.getElem?_eq_some_iff.mp q).1
        rw [List.length_set] at this; exact this
      rw [List.getElem?_set_self hl] at q
      cases q
      exact ⟨p, by rw [List.getElem?_set_self (by rw [← r.len]; exact hl)], by show (if p = p then _ else _) = _; rw [if_pos rfl], hc.mono rfl (Same.refl _) fun _ _ z => z⟩
    · rw [getD_set_true hi, if_neg z] at hj
      rw [List.getElem?_set_ne (fun q => z q.symm)] at q ⊢
      obtain ⟨a, h1, h2, h3⟩ := r.slO j e q hj
      refine ⟨a, h1, ?_, h3.mono rfl (Same.refl _) fun _ _ z => z⟩
      show (if a = p then _ else _) = _
      rw [if_neg (fun z => by rw [z, ho] at h2; cases h2)]; exact h2
theorem own_run {K : PySem.W.Frag} {E : Ends} {σ : L2.St} {H : Hp} {te : TE} {i : Nat} (he : ∀ σ H Q, tNw K B.J Γ me σ H Q → te σ H Q) (hi : i < Γ.length) (hX : leG B.ΓX Γ = true) (q : tSt K B Γ (Γ.set i true) (mOwn i me) E σ H) : tAsg te (gName i) E σ H := by
  obtain ⟨g, sl, S, r, p⟩ := tSt_iff.mp q
  refine he _ _ _ (csN r p hX fun g1 H1 d S1 x st1 r1 b1 n1 p1 => ?_)
  split at p1
  · obtain ⟨a, rfl, h1, h2, h3⟩ := b1
    exact p1 (g1.claim a (.slot i)) H1 _ (claim_stp st1.toS (n1 a rfl) h1) (rel_claim r1 h1 h2 h3 hi)
  · exact False.elim p1
/-- name = a new list, which is the frame's own -/
theorem ss_own (i : Nat) {x : Str} {pos' : Pos} (hN : X.N.Nodup) (he : SN X B.J Γ e me) (hi' : i < Γ.length := by decide) (hX : leG B.ΓX Γ = true := by rfl) (hi : X.N[i]? = some x := by rfl) (hx : Loc X.env.scope x := by first | exact Or.inl rfl | exact Or.inr rfl)
    (hs : swapsWith e (some (.Name x pos')) pos.line X.env = pure false := by rfl) (hf : X.fn x = true ∨ X.env.scope.names.lookup x = some .local := by first | exact .inl rfl | exact .inr rfl | assumption) : SS X B Γ (Γ.set i true) (.Assign [.Name x pos'] e pos) (mOwn i me) :=
  PS.imp (ps_set hN hi hx he hs hf) fun E σ H q => own_run (fun _ _ _ z => z) hi' hX q
end
end Sm
set_option Elab.async false
set_option linter.all false
set_option maxRecDepth 100000
set_option maxHeartbeats 1000000
/-! Sim 7: loops, own lists, attributes. -/
namespace Sm
open PySem PySem.Spec PyProof.Rows L2

/-! ### for -/
def loopF (t : Tg) (body : Ms) : List D → Ms
  | [], sl, S => .next sl S
  | d :: ds, sl, S => match t d sl with
    | none => .stuck
    | some sl' => match body sl' S with
      | .next sl2 S2 => loopF t body ds sl2 S2
      | .cont sl2 S2 => loopF t body ds sl2 S2
      | .brk sl2 S2 => .next sl2 S2
      | r => r
def mFor (src : Mx (List D)) (t : Tg) (body : Ms) : Ms := bindS src fun ds => loopF t body ds
def whileF (c : Mx Bool) (body : Ms) : Nat → Ms
  | 0 => fun _ _ => .stuck
  | n + 1 => bindS c fun k => if k = true then (fun sl S => match body sl S with
      | .next sl2 S2 => whileF c body n sl2 S2
      | .cont sl2 S2 => whileF c body n sl2 S2
      | .brk sl2 S2 => .next sl2 S2
      | r => r) else fun sl S => .next sl S
section
variable {X : Cx} {B : Js} {Γ Γ' Γ1 Γ2 : List Bool} {st : Stmt} {body : List Stmt} {m m1 m2 mb : Ms} {e tg c iter : Expr} {me ma : Mx D} {ms : Mx (List D)} {mt : Mx Bool} {pos : Pos} {t : Tg} {gt : TG} {vs : List Nat}
/-- what a loop's body wants, out of what the loop wants -/
theorem body_post {K : PySem.W.Frag} {E E' : Ends} {g : Gh} {H : Hp} {r : Rs} {k : List (Option D) → Sto → Rs} (hr : E'.rt = E.rt) (hb : E'.bk = E.nx)
    (hn : ∀ g' H' σ' sl' S', Stp (cS B.J.lv) g H g' H' → Rel K B.J.C Γ g' sl' S' σ' H' → PSt K B Γ E g' H' (k sl' S') → E'.nx σ' H' ∧ E'.ct σ' H')
    (p : PSt K B Γ E g H (match r with | .next sl2 S2 => k sl2 S2 | .cont sl2 S2 => k sl2 S2 | .brk sl2 S2 => .next sl2 S2 | r => r)) : PSt K { B with ΓL := Γ } Γ E' g H r := by
  cases r with
  | next sl S => exact fun g' H' σ' s r => (hn g' H' σ' sl S s r (PSt.step s p)).1
  | ret d S => exact fun g' H' v s r e => by rw [hr]; exact p g' H' v s r e
  | brk sl S => exact fun g' H' σ' s r => by rw [hb]; exact p g' H' σ' s r
  | cont sl S => exact fun g' H' σ' s r => (hn g' H' σ' sl S s r (PSt.step s p)).2
  | err x sl S => exact fun g' H' σ' cls dx s r e => p g' H' σ' cls dx s r e
  | stuck => exact p
theorem ss_for (hp : PassesOwn (model X.prog X.w) X.A X.env X.xe) (hc : X.calm = true) (hi : SI X B.J (cS B.J.lv) Γ tg iter ms) (hg : STg X B.J.C Γ Γ vs tg t gt) (hb : SSs X { B with ΓL := Γ } Γ Γ body mb) (hX : leG B.ΓX Γ = true := by rfl)
    (hs : ∀ x, foldedSetIterable iter X.env x = pure x := by intro _; rfl) : SS X B Γ Γ (.For tg iter body [] pos) (mFor ms t mb) :=
  PS.imp (ps_for hp hc hi hg.1 hb hs) fun E σ H q => by
    obtain ⟨g, sl, S, r, p⟩ := tSt_iff.mp q
    refine csI r p hX fun g1 H1 ds S1 Jt st1 r1 hw p1 => ?_
    obtain ⟨Gp, Y, w, hG, hY⟩ := hw
    refine for_it w (fun i σ' H' => ∃ g' sl' S', Stp (cS B.J.lv) g1 H1 g' H' ∧ Rel X.K B.J.C Γ g' sl' S' σ' H' ∧ PSt X.K B Γ E g' H' (loopF t mb (ds.drop i) sl' S')) ⟨g1, sl, S1, Stp.refl, r1, p1⟩ ?_ ?_ ?_
    · rintro i σ' H' _ ⟨g', sl', S', st, r', _⟩
      exact hG g' H' st r'.sto.sub
    · rintro i x σ' H' H2 hi ⟨g', sl', S', st, r', p'⟩ y
      have hd : ds[i]? = some ds[i] := by simp [hi]
      rw [List.drop_eq_getElem_cons hi] at p'
      obtain ⟨g2, st2, s2, rx⟩ := hY i g' H' x H2 S' _ st r'.sto hd y
      have r2 : Rel X.K B.J.C Γ g2 sl' S' σ' H2 := r'.step (st2.toA (lv := false)) s2
      have p2 := PSt.step ((st2.toS (lv := false)).toSA (lv := B.J.lv)) p'
      unfold loopF at p2
      cases et : t ds[i] sl' with
      | none => rw [et] at p2; exact False.elim p2
      | some sl2 =>
        rw [et] at p2
        refine hg.2 g2 sl' sl2 S' σ' H2 _ x _ r2 rx et fun σ2 _ r3 => tSt_iff.mpr ⟨g2, sl2, S', r3, ?_⟩
        refine body_post (E := E) (k := loopF t mb (ds.drop (i + 1))) rfl rfl (fun g3 H3 σ3 sl3 S3 s3 r3 p3 => ?_) p2
        have z : ∃ g' sl' S', Stp (cS B.J.lv) g1 H1 g' H3 ∧ Rel X.K B.J.C Γ g' sl' S' σ3 H3 ∧ PSt X.K B Γ E g' H3 (loopF t mb (ds.drop (i + 1)) sl' S') :=
          ⟨g3, sl3, S3, (st.trans ((st2.toS (lv := false)).toSA)).trans s3, r3, p3⟩
        exact ⟨z, z⟩
    · rintro σ' H' ⟨g', sl', S', st, r', p'⟩
      rw [List.drop_length] at p'
      exact p' g' H' σ' Stp.refl r'
theorem ss_while (n : Nat) (hp : PassesOwn (model X.prog X.w) X.A X.env X.xe) (hc : ST X B.J Γ c mt) (hb : SSs X { B with ΓL := Γ } Γ Γ body mb) (hX : leG B.ΓX Γ = true := by rfl) : SS X B Γ Γ (.While c body [] pos) (whileF mt mb n) :=
  PS.imp (ps_while hp hc hb) fun E σ H q => by
    obtain ⟨g, sl, S, r, p⟩ := tSt_iff.mp q
    refine ⟨fun k σ' H' => ∃ g' sl' S', Rel X.K B.J.C Γ g' sl' S' σ' H' ∧ PSt X.K B Γ E g' H' (whileF mt mb k sl' S'), ⟨n, g, sl, S, r, p⟩, ?_⟩
    rintro k σ' H' ⟨g', sl', S', r', p'⟩
    cases k with
    | zero => exact False.elim p'
    | succ k =>
      unfold whileF at p'
      refine csT r' p' hX fun g1 H1 d S1 st1 r1 p1 => ?_
      cases d with
      | false => exact p1 g1 H1 σ' Stp.refl r1
      | true =>
        refine ⟨fun σ2 H2 => ∃ g' sl' S', Rel X.K B.J.C Γ g' sl' S' σ2 H2 ∧ PSt X.K B Γ E g' H2 (whileF mt mb k sl' S'), fun σ2 H2 h => ⟨k, Nat.lt_succ_self _, h⟩, tSt_iff.mpr ⟨g1, sl', S1, r1, ?_⟩⟩
        refine body_post (E := E) (k := whileF mt mb k) rfl rfl (fun g3 H3 σ3 sl3 S3 s3 r3 p3 => ⟨⟨g3, sl3, S3, r3, p3⟩, ⟨g3, sl3, S3, r3, p3⟩⟩) p1
end

/-! ### a cell that is written -/
theorem stp_upd {c : Ow → Bool} {g : Gh} {H : Hp} {p : Addr} {w : Ow} {o : HO} (hw : g.own p = some w) (hc : c w = true) (hp : H p ≠ none) : Stp c g H g (upd H p o) :=
  ⟨Same.refl _, fun a u h q => by
    have z : a ≠ p := fun z => by have := q w (by rw [z]; exact hw); rw [hc] at this; cases this
    rw [upd_ne z]; exact h, fun a h => by
    by_cases z : a = p
    · rw [z, upd_same] at h; cases h
    · rw [upd_ne z] at h; exact h, fun _ _ h _ => h, fun _ _ h => .inl h, fun _ _ h => .inl h, fun _ _ h => h⟩
section
variable {K : PySem.W.Frag} {C : Cfg} {Γ : List Bool} {g : Gh} {sl : List (Option D)} {S : Sto} {σ : L2.St} {H : Hp}
theorem sub_upd {p : Addr} {w : Ow} {o : HO} (s : StoOk K C g H S) (hw : g.own p = some w) : Same g.G (upd H p o) := fun a u h => by
  have z : a ≠ p := fun z => by rw [z, (s.fro p w hw).1] at h; cases h
  rw [upd_ne z]; exact s.sub a u h
theorem own_inj {p q : Addr} {w : Ow} {v : Ow} (h : g.own p = some w) (k : g.own q = some v) (ne : w ≠ v) : p ≠ q := fun z => by rw [z, k] at h; cases h; exact ne rfl
theorem rel_updS {p : Addr} {i : Nat} {d : D} {o : HO} (r : Rel K C Γ g sl S σ H) (hp : g.own p = some (.slot i)) (hσ : σ[i]? = some (some (.ref p))) (hΓ : Γ.getD i false = true) (hc : Cell K C g (upd H p o) p d) :
    Rel K C Γ g (sl.set i (some d)) S σ (upd H p o) := by
  have hH : H p ≠ none := (r.sto.fro p _ hp).2
  refine ⟨?_, by rw [List.length_set]; exact r.len, fun j e q hj => ?_, fun j e q hj => ?_, fun c q => ⟨fun hj => ?_, (r.cau c q).2⟩⟩
  rotate_left 3
  · have := cau_set (v := some (.ref p)) (r.cau c q).1 hj
    by_cases z : i = c.i
    · rw [← z] at this ⊢; rw [hσ]; rw [← this, List.getElem?_set_self (List.getElem?_eq_some_iff.mp hσ).1]
    · rwa [List.getElem?_set_ne z] at this
  · refine sto_keep r.sto (sub_upd r.sto hp) rfl (Same.refl _) (fun a u h => ⟨(r.sto.fro a u h).1, ?_⟩) fun a u h hw => ⟨h, by rw [upd_ne (own_inj h hp (hw i))]⟩
    by_cases z : a = p
    · rw [z, upd_same]; exact fun z => by cases z
    · rw [upd_ne z]; exact (r.sto.fro a u h).2
  · have z : i ≠ j := fun z => by rw [← z, hΓ] at hj; cases hj
    rw [List.getElem?_set_ne z] at q
    exact r.slF j e q hj
  · by_cases z : i = j
    · subst z
      have hi : i < sl.length := by
        have := (List.getElem?_eq_some_iff.mp q).1
        rw [List.length_set] at this; exact this
      rw [List.getElem?_set_self hi] at q
      cases q
      exact ⟨p, hσ, hp, hc⟩
    · rw [List.getElem?_set_ne z] at q
      obtain ⟨a, h1, h2, h3⟩ := r.slO j e q hj
      exact ⟨a, h1, h2, h3.mono (upd_ne (own_inj h2 hp fun q => by cases q; exact z rfl)) (Same.refl _) fun _ _ z => z⟩
end

/-! ### methods that change a list of the frame's or an object's own -/
def OwnOp (K : PySem.W.Frag) (r : V → List V → Hp → VK → Prop) (f : D → List D → Option (D × D)) : Prop :=
  ∀ (C : Cfg) (g : Gh) (H : Hp) (l : Addr) (d z d' : D) (args : List D) (vs : List V) (Q : VK), f d args = some (z, d') → Cell K C g H l d → Reps K C g.G g.ρ args vs →
    (∀ v o, Rep K C g.G g.ρ z v → Cell K C g (upd H l o) l d' → Q v (upd H l o)) → r (.ref l) vs H Q
section
variable {K : PySem.W.Frag}
def oAppend : D → List D → Option (D × D)
  | .lst xs, [y] => if xs.length < sizeLine then some (.non, .lst (xs ++ [y])) else none
  | _, _ => none
theorem oo_append : OwnOp K rAppend oAppend := by
  intro C g H l d z d' args vs Q h c rs k
  unfold oAppend at h
  split at h
  · split at h
    · rename_i hs
      cases h
      obtain ⟨us, e, ru⟩ := c
      cases rs with
      | cons r1 r2 =>
        cases r2
        exact ⟨l, us, _, rfl, rfl, e, by rw [← ru.length]; exact hs, k _ _ .non ⟨_, upd_same, ru.append (.cons r1 .nil)⟩⟩
    · cases h
  · cases h
def oPop : D → List D → Option (D × D)
  | .lst xs, [] => match xs.getLast? with
    | some y => some (y, .lst xs.dropLast)
    | none => none
  | _, _ => none
theorem Reps.dropLast {C : Cfg} {G : Hp} {ρ : List Addr} {ds : List D} {vs : List V} (r : Reps K C G ρ ds vs) : Reps K C G ρ ds.dropLast vs.dropLast := by
  rw [List.dropLast_eq_take, List.dropLast_eq_take, r.length]
  exact r.take _
theorem oo_pop : OwnOp K rPop oPop := by
  intro C g H l d z d' args vs Q h c rs k
  unfold oPop at h
  split at h
  · split at h
    · rename_i y hy
      cases h
      obtain ⟨us, e, ru⟩ := c
      cases rs
      rw [List.getLast?_eq_getElem?] at hy
      obtain ⟨v, h1, h2⟩ := ru.get hy
      exact ⟨l, us, v, rfl, rfl, e, by rw [← ru.length]; exact h1, k _ _ h2 ⟨_, upd_same, ru.dropLast⟩⟩
    · cases h
  · cases h
def oReverse : D → List D → Option (D × D)
  | .lst xs, [] => some (.non, .lst xs.reverse)
  | _, _ => none
theorem oo_reverse : OwnOp K rReverse oReverse := by
  intro C g H l d z d' args vs Q h c rs k
  unfold oReverse at h
  split at h
  · cases h
    obtain ⟨us, e, ru⟩ := c
    cases rs
    exact ⟨l, us, rfl, rfl, e, k _ _ .non ⟨_, upd_same, ru.reverse⟩⟩
  · cases h
def oClear : D → List D → Option (D × D)
  | .lst xs, [] => some (.non, .lst [])
  | _, _ => none
theorem oo_clear : OwnOp K rClear oClear := by
  intro C g H l d z d' args vs Q h c rs k
  unfold oClear at h
  split at h
  · cases h
    obtain ⟨us, e, ru⟩ := c
    cases rs
    exact ⟨l, us, rfl, rfl, e, k _ _ .non ⟨_, upd_same, .nil⟩⟩
  · cases h
end
def isLst : D → Bool
  | .lst _ => true
  | _ => false
/-- the frame's own list in slot i: with the arguments; the result goes on -/
def mOwnS (f : D → List D → Option (D × D)) (i : Nat) (ma : Mx (List D)) (k : D → Ms) : Ms := fun sl S => match sl[i]? with
  | some (some d) => if isLst d = true then bindS ma (fun as sl S => match f d as with
    | some (z, d') => k z (sl.set i (some d')) S
    | none => .stuck) sl S else .stuck
  | _ => .stuck
section
variable {X : Cx} {B : Js} {Γ Γ' Γ1 Γ2 : List Bool} {e tg c iter : Expr} {es : List Expr} {me ma : Mx D} {ms : Mx (List D)} {pos p2 apos cpos : Pos} {t : Tg} {gt : TG} {vs : List Nat} {id : String} {name x : Str} {r : V → List V → Hp → VK → Prop} {f : D → List D → Option (D × D)}
theorem ownS_run {K : PySem.W.Frag} {E : Ends} {σ : L2.St} {H : Hp} {i : Nat} {k : D → Ms} {R : VK} {ta : TA} (hf : OwnOp K r f) (hΓ : Γ.getD i false = true) (hX : leG B.ΓX Γ = true) (ha : ∀ σ H Q, tDs K B.J Γ ms σ H Q → ta σ H Q)
    (q : tSt K B Γ Γ' (mOwnS f i ms k) E σ H)
    (h : ∀ g' H' d v sl' S', Rel K B.J.C Γ g' sl' S' σ H' → Rep K B.J.C g'.G g'.ρ d v → PSt K B Γ' E g' H' (k d sl' S') → R v H') :
    tBM K "list" r (tVar i) ta σ H R := by
  obtain ⟨g, sl, S, rl, p⟩ := tSt_iff.mp q
  unfold mOwnS at p
  cases e0 : sl[i]? with
  | none => rw [e0] at p; exact False.elim p
  | some od =>
    cases od with
    | none => rw [e0] at p; exact False.elim p
    | some d =>
      rw [e0] at p
      obtain ⟨a, h1, h2, h3⟩ := rl.slO i d e0 hΓ
      by_cases hl : isLst d = true
      · have p : PSt K B Γ' E g H (if isLst d = true then bindS ms (fun as sl S => match f d as with | some (z, d') => k z (sl.set i (some d')) S | none => .stuck) sl S else .stuck) := p
        rw [if_pos hl] at p
        have ty : tyV K "list" (.ref a) H := by
          cases d <;> first | cases hl | skip
          obtain ⟨us, e, _⟩ := h3
          exact Or.inl ⟨rfl, us, SqL.of e⟩
        refine ⟨.ref a, h1, ty, ha _ _ _ (csDs rl p hX fun g1 H1 as S1 vs st1 r1 b1 p1 => ?_)⟩
        obtain ⟨a', k1, k2, k3⟩ := r1.slO i d e0 hΓ
        have e1 : a' = a := by rw [k1] at h1; cases h1; rfl
        subst e1
        cases ef : f d as with
        | none => rw [ef] at p1; exact False.elim p1
        | some zd =>
          obtain ⟨z, d'⟩ := zd
          rw [ef] at p1
          refine hf B.J.C g1 H1 a' d z d' as vs R ef k3 b1 fun v o hv hc => ?_
          exact h g1 _ z v _ S1 (rel_updS r1 k2 k1 hΓ hc) hv (PSt.step (stp_upd k2 rfl (r1.sto.fro _ _ k2).2) p1)
      · have p : PSt K B Γ' E g H (if isLst d = true then bindS ms (fun as sl S => match f d as with | some (z, d') => k z (sl.set i (some d')) S | none => .stuck) sl S else .stuck) := p
        rw [if_neg hl] at p
        exact False.elim p
/-- xs.m(e, ..): hc by pe_bm -/
theorem ss_ownDo {call : Expr} (i : Nat) (hc : PE X call (tBM X.K "list" r (tVar i) (tDs X.K B.J Γ ms))) (hf : OwnOp X.K r f) (hΓ : Γ.getD i false = true := by rfl) (hX : leG B.ΓX Γ = true := by rfl)
    (hs : swapsWith call none pos.line X.env = pure false := by rfl) : SS X B Γ Γ (.Expr call pos) (mOwnS f i ms fun _ => mSkip) :=
  PS.imp (ps_expr hc hs) fun E σ H q => ownS_run (K := X.K) hf hΓ hX (fun _ _ _ z => z) q fun g' H' d v sl' S' rl hv p => p g' H' σ Stp.refl rl
theorem bm0_bm {K : PySem.W.Frag} {σ : L2.St} {H : Hp} {R : VK} {to : TE} (h : tBM K "list" r to tNil σ H R → Prop) : True := trivial
theorem nil_run {K : PySem.W.Frag} {J : Jd} : ∀ (σ : L2.St) (H : Hp) (Q : List V → Hp → Prop), tDs K J Γ mNil σ H Q → tNil σ H Q := fun σ H Q z => by
  obtain ⟨g, sl, S, r, p⟩ := tDs_iff.mp z
  exact p g H [] Stp.refl r .nil
/-- xs.m(): hc by pe_bm0 -/
theorem ss_ownDo0 {call : Expr} (i : Nat) (hc : PE X call (tBM0 X.K "list" r (tVar i))) (hf : OwnOp X.K r f) (hΓ : Γ.getD i false = true := by rfl) (hX : leG B.ΓX Γ = true := by rfl)
    (hs : swapsWith call none pos.line X.env = pure false := by rfl) : SS X B Γ Γ (.Expr call pos) (mOwnS f i mNil fun _ => mSkip) :=
  PS.imp (ps_expr hc hs) fun E σ H q =>
    (ownS_run (K := X.K) (R := fun _ H1 => E.nx σ H1) hf hΓ hX nil_run q fun g' H' d v sl' S' rl hv p => p g' H' σ Stp.refl rl : tBM X.K "list" r (tVar i) tNil σ H fun _ H1 => E.nx σ H1)
/-- target = xs.m() -/
theorem ss_ownGet0 {call : Expr} (i : Nat) (hc : PE X call (tBM0 X.K "list" r (tVar i))) (hf : OwnOp X.K r f) (hg : STg X B.J.C Γ Γ' vs tg t gt) (hΓ : Γ.getD i false = true := by rfl) (hX : leG B.ΓX Γ = true := by rfl)
    (hs : swapsWithSole [tg] call pos.line X.env = pure false := by rfl) (hw : swappedStores [tg] call X.env = pure none := by rfl) (h1 : (assignEach [tg] X.env).map (·.2) = [assign tg X.env] := by rfl) :
    SS X B Γ Γ' (.Assign [tg] call pos) (mOwnS f i mNil fun d sl S => match t d sl with | some sl' => .next sl' S | none => .stuck) :=
  PS.imp (ps_asg hc hg.1 hs hw h1) fun E σ H q =>
    (ownS_run (K := X.K) (R := fun x H1 => gt x σ H1 E.nx) hf hΓ hX nil_run q fun g' H' d v sl' S' rl hv p => by
      cases et : t d sl' with
      | none => rw [et] at p; exact False.elim p
      | some sl2 =>
        rw [et] at p
        exact hg.2 g' sl' sl2 S' σ H' d v _ rl hv et fun σ' _ r' => p g' H' σ' Stp.refl r' : tBM X.K "list" r (tVar i) tNil σ H fun x H1 => gt x σ H1 E.nx)
/-- xs[i] = e, the frame's own list -/
def mSetIx (i : Nat) (mi me : Mx D) : Ms := bindS me fun d sl S => match sl[i]? with
  | some (some (.lst xs)) => bindS mi (fun k sl S => match k with
    | .int z => match ixN xs.length z with
      | some j => .next (sl.set i (some (.lst (xs.set j d)))) S
      | none => .stuck
    | _ => .stuck) sl S
  | _ => .stuck
theorem ss_setIx (i : Nat) {p3 : Pos} {ei : Expr} {mi : Mx D} (he : SD X B.J Γ e me) (hi : SD X B.J Γ ei mi) (hΓ : Γ.getD i false = true := by rfl) (hX : leG B.ΓX Γ = true := by rfl)
    (hN : X.N[i]? = some x := by rfl) (hv : Vis X.env.scope x := by first | exact Or.inl rfl | exact Or.inr (Or.inl rfl) | exact Or.inr (Or.inr rfl)) (hd : (x == ("__debug__" : Str)) = false := by decide) (hcd : (x == ("__classdict__" : Str)) = false := by decide)
    (hg : PE X (.Name x p2) (tVar i) → PE X ei (tD X.K B.J Γ mi) → PG X (.Subscript (.Name x p2) ei p3) (gSub (tVar i) (tD X.K B.J Γ mi) rSetL) := by exact fun h1 h2 => pg_sub h1 h2 set_list)
    (hs : swapsWithSole [.Subscript (.Name x p2) ei p3] e pos.line X.env = pure false := by rfl) (hw : swappedStores [.Subscript (.Name x p2) ei p3] e X.env = pure none := by rfl)
    (h1 : (assignEach [.Subscript (.Name x p2) ei p3] X.env).map (·.2) = [assign (.Subscript (.Name x p2) ei p3) X.env] := by rfl) :
    SS X B Γ Γ (.Assign [.Subscript (.Name x p2) ei p3] e pos) (mSetIx i mi me) :=
  PS.imp (ps_asg he (hg (pe_var hN hv hd hcd) hi) hs hw h1) fun E σ H q => by
    obtain ⟨g, sl, S, rl, p⟩ := tSt_iff.mp q
    refine csD rl p hX fun g1 H1 d S1 y st1 r1 b1 p1 => ?_
    cases e0 : sl[i]? with
    | none => rw [e0] at p1; exact False.elim p1
    | some od =>
      cases od with
      | none => rw [e0] at p1; exact False.elim p1
      | some dl =>
        rw [e0] at p1
        cases dl <;> first | exact False.elim p1 | skip
        rename_i xs
        obtain ⟨a, h1, h2, h3⟩ := r1.slO i _ e0 hΓ
        refine ⟨.ref a, h1, csD (B := B) (Γ' := Γ) (E := E) r1 p1 hX fun g2 H2 k S2 z st2 r2 b2 p2 => ?_⟩
        cases k <;> first | exact False.elim p2 | skip
        rename_i zi
        have p2 : PSt X.K B Γ E g2 H2 (match ixN xs.length zi with | some j => .next (sl.set i (some (.lst (xs.set j d)))) S2 | none => .stuck) := p2
        cases ej : ixN xs.length zi with
        | none => rw [ej] at p2; exact False.elim p2
        | some j =>
          rw [ej] at p2
          cases b2
          obtain ⟨a', k1, k2, us, k3, k4⟩ := r2.slO i _ e0 hΓ
          have e1 : a' = a := by rw [k1] at h1; cases h1; rfl
          subst e1
          refine ⟨a', us, zi, j, rfl, rfl, k3, by rw [← k4.length]; exact ej, ?_⟩
          have cl : Cell X.K B.J.C g2 (upd H2 a' (.lst (us.set j y))) a' (.lst (xs.set j d)) := ⟨_, upd_same, Reps.set (b1.step st2) j k4⟩
          exact p2 g2 _ σ (stp_upd k2 rfl (by rw [k3]; exact fun z => by cases z)) (rel_updS r2 k2 k1 hΓ cl)
end
end Sm
set_option Elab.async false
set_option linter.all false
set_option maxRecDepth 100000
set_option maxHeartbeats 1000000
/-! Sim 8: attributes of objects, augmented assignments. -/
namespace Sm
open PySem PySem.Spec PyProof.Rows L2

/-- what the classes of the text are -/
structure CfgOk (K : PySem.W.Frag) (C : Cfg) : Prop where
  at_ : ∀ (c k : Nat) (n : Str), (C.fl c)[k]? = some n → Cls K (C.ca c) ∧ NoAttr K (C.ca c) n
  few : ∀ c, (C.fl c).length ≤ 100
  nd : ∀ c, (C.fl c).Nodup
def chkF (fl : Nat → List Str) (ow : Nat → Nat → Bool) (f : Str) (cs : List (Nat × Nat)) : Bool := cs.all fun p => decide ((fl p.1)[p.2]? = some f) && !ow p.1 p.2
def chkO (fl : Nat → List Str) (f : Str) (cs : List (Nat × Nat)) : Bool := cs.all fun p => decide ((fl p.1)[p.2]? = some f)
theorem lookup_mem : ∀ {cs : List (Nat × Nat)} {c k : Nat}, cs.lookup c = some k → (c, k) ∈ cs
  | [], _, _, h => by cases h
  | (a, b) :: r, c, k, h => by
    by_cases z : c = a
    · subst z; simp [List.lookup] at h; subst h; exact List.mem_cons_self
    · have e : (c == a) = false := by simpa using z
      simp only [List.lookup, e] at h
      exact List.mem_cons_of_mem _ (lookup_mem h)
theorem chkF_at {fl : Nat → List Str} {ow : Nat → Nat → Bool} {f : Str} {cs : List (Nat × Nat)} {c k : Nat} (h : chkF fl ow f cs = true) (e : cs.lookup c = some k) : (fl c)[k]? = some f ∧ ow c k = false := by
  have q := List.all_eq_true.mp h _ (lookup_mem e)
  simp only [Bool.and_eq_true, decide_eq_true_eq, Bool.not_eq_true'] at q
  exact q
theorem chkO_at {fl : Nat → List Str} {f : Str} {cs : List (Nat × Nat)} {c k : Nat} (h : chkO fl f cs = true) (e : cs.lookup c = some k) : (fl c)[k]? = some f := by
  have q := List.all_eq_true.mp h _ (lookup_mem e)
  simpa using q
theorem repF_at {K : PySem.W.Frag} {C : Cfg} {G : Hp} {ρ : List Addr} : ∀ {ns : List Str} {ds : List (Option D)} {fs : List (Str × V)} {k : Nat} {n : Str} {d : D}, RepF K C G ρ ns ds fs → ns[k]? = some n → ds[k]? = some (some d) → ∃ v, fs.lookup n = some v ∧ Rep K C G ρ d v
  | _, _, _, _, _, _, .nil, e, _ => by simp at e
  | _, _, _, 0, _, _, .none _ _, _, h => by simp at h
  | _, _, _, k + 1, _, _, .none _ r, e, h => repF_at (k := k) r (by simpa using e) (by simpa using h)
  | _, _, _, 0, _, _, .some q r _, e, h => by simp at e h; subst e; subst h; exact ⟨_, q, r⟩
  | _, _, _, k + 1, _, _, .some _ _ r, e, h => repF_at (k := k) r (by simpa using e) (by simpa using h)

/-- o.f: cs tells the attribute's place by the class -/
def rdF (cs : List (Nat × Nat)) (d : D) (S : Sto) : Option D := match d with
  | .obj c fs => match cs.lookup c with
    | some k => (fs[k]?).join
    | none => none
  | .ref i => match S[i]? with
    | some ob => match cs.lookup ob.c with
      | some k => (ob.fs[k]?).join
      | none => none
    | none => none
  | _ => none
def mFld (cs : List (Nat × Nat)) (m : Mx D) : Mx D := bindX m fun d sl S => match rdF cs d S with
  | some z => .ok z S
  | none => .stuck
theorem join_some {α : Type} {o : Option (Option α)} {a : α} (h : o.join = some a) : o = some (some a) := by
  cases o with
  | none => cases h
  | some x => cases x with
    | none => cases h
    | some y => cases h; rfl
section
variable {X : Cx} {J : Jd} {B : Js} {Γ Γ' : List Bool} {o e : Expr} {mo me : Mx D} {ms : Mx (List D)} {f : Str} {pos pos' tpos : Pos} {cs : List (Nat × Nat)}
theorem fld_view {K : PySem.W.Frag} {C : Cfg} {g : Gh} {H : Hp} {S : Sto} {d z : D} {x : V} {f : Str} {cs : List (Nat × Nat)} (hC : CfgOk K C) (s : StoOk K C g H S) (hd : Rep K C g.G g.ρ d x) (e : rdF cs d S = some z) (hcs : chkO C.fl f cs = true) :
    ∃ a Ca dx fs v, x = .ref a ∧ H a = some (.ins Ca dx fs) ∧ Cls K Ca ∧ NoAttr K Ca f ∧ fs.lookup f = some v ∧
      ((∃ c k, cs.lookup c = some k ∧ Rep K C g.G g.ρ z v) ∨ ∃ i c k p, cs.lookup c = some k ∧ C.ow c k = true ∧ v = .ref p ∧ g.own p = some (.fld i k) ∧ Cell K C g H p z) := by
  unfold rdF at e
  split at e
  · rename_i c fs
    cases hk : cs.lookup c with
    | none => rw [hk] at e; cases e
    | some k =>
      rw [hk] at e
      have e := join_some e
      have hf := chkO_at hcs hk
      obtain ⟨hcl, hno⟩ := hC.at_ _ _ _ hf
      cases hd with
      | @obj _ a dx fv _ hG hr hno' =>
        obtain ⟨v, h1, h2⟩ := repF_at hr hf e
        exact ⟨a, _, dx, fv, v, rfl, s.sub _ _ hG, hcl, hno, h1, .inl ⟨c, k, hk, h2⟩⟩
  · rename_i i
    cases hi : S[i]? with
    | none => rw [hi] at e; cases e
    | some ob =>
      rw [hi] at e
      have e : (match cs.lookup ob.c with | some k => (ob.fs[k]?).join | none => none) = some z := e
      cases hk : cs.lookup ob.c with
      | none => rw [hk] at e; cases e
      | some k =>
        rw [hk] at e
        have e := join_some e
        have hf := chkO_at hcs hk
        obtain ⟨hcl, hno⟩ := hC.at_ _ _ _ hf
        obtain ⟨a, dx, fv, h1, h2⟩ := s.ob i ob hi
        cases hd with
        | ref hρ =>
          rw [h1] at hρ; cases hρ
          obtain ⟨v, q1, q2⟩ := h2.fld k f (some z) hf e
          refine ⟨a, _, dx, fv, v, rfl, h2.at_, hcl, hno, q1, ?_⟩
          by_cases hw : C.ow ob.c k = true
          · rw [if_pos hw] at q2
            obtain ⟨p, hp, ho, hc⟩ := q2
            exact .inr ⟨i, ob.c, k, p, hk, hw, hp, ho, hc⟩
          · rw [if_neg hw] at q2
            exact .inl ⟨ob.c, k, hk, q2⟩
  · cases e
theorem sd_fld (cs : List (Nat × Nat)) (hC : CfgOk X.K J.C) (ho : SD X J Γ o mo) (hcs : chkF J.C.fl J.C.ow f cs = true := by rfl) (hb : attributeBase o f X.env (eval o X.env) = eval o X.env := by rfl) : SD X J Γ (.Attribute o f pos) (mFld cs mo) :=
  PE.imp (pe_fld ho hb) fun σ H Q q => by
    obtain ⟨g, sl, S, rl, p⟩ := tD_iff.mp q
    refine chD postD rl p fun g1 H1 d S1 x st1 r1 b1 p1 => ?_
    cases e : rdF cs d S1 with
    | none => rw [e] at p1; exact False.elim p1
    | some z =>
      rw [e] at p1
      have hO : chkO J.C.fl f cs = true := List.all_eq_true.mpr fun p hp => by
        have q := List.all_eq_true.mp hcs p hp
        simp only [Bool.and_eq_true] at q
        exact q.1
      obtain ⟨a, Ca, dx, fs, v, h1, h2, h3, h4, h5, h6⟩ := fld_view hC r1.sto b1 e hO
      refine ⟨a, Ca, dx, fs, v, h1, h2, h3, h4, h5, ?_⟩
      rcases h6 with ⟨c, k, hk, h6⟩ | ⟨i, c, k, p, hk, hw, _⟩
      · exact PD.now p1 r1 h6
      · rw [(chkF_at hcs hk).2] at hw; cases hw
theorem sb_fld (cs : List (Nat × Nat)) (hC : CfgOk X.K J.C) (ho : SD X J Γ o mo) (hl : J.lv = false := by rfl) (hcs : chkO J.C.fl f cs = true := by rfl) (hb : attributeBase o f X.env (eval o X.env) = eval o X.env := by rfl) : SB X J Γ (.Attribute o f pos) (mFld cs mo) :=
  PE.imp (pe_fld ho hb) fun σ H Q q => by
    obtain ⟨g, sl, S, rl, p⟩ := tBo_iff.mp q
    refine chD postB rl p fun g1 H1 d S1 x st1 r1 b1 p1 => ?_
    cases e : rdF cs d S1 with
    | none => rw [e] at p1; exact False.elim p1
    | some z =>
      rw [e] at p1
      obtain ⟨a, Ca, dx, fs, v, h1, h2, h3, h4, h5, h6⟩ := fld_view hC r1.sto b1 e hcs
      refine ⟨a, Ca, dx, fs, v, h1, h2, h3, h4, h5, p1 g1 H1 v Stp.refl r1 ?_⟩
      rcases h6 with ⟨c, k, hk, h6⟩ | ⟨i, c, k, p, hk, hw, rfl, ho, hc⟩
      · exact .inl h6
      · exact .inr ⟨p, _, rfl, ho, by rw [hl]; rfl, hc⟩

/-! ### stores to attributes -/
theorem cnt_set_none {fs : List (Option D)} {k : Nat} {d : D} (h : fs[k]? = some none) : cnt (fs.set k (some d)) = cnt fs + 1 := by
  unfold cnt
  induction fs generalizing k with
  | nil => simp at h
  | cons a r ih =>
    cases k with
    | zero => simp at h; subst h; simp [List.filter]
    | succ k =>
      have := ih (k := k) (by simpa using h)
      cases a <;> simp [List.filter] <;> omega
theorem cnt_set_some {fs : List (Option D)} {k : Nat} {d d' : D} (h : fs[k]? = some (some d')) : cnt (fs.set k (some d)) = cnt fs := by
  unfold cnt
  induction fs generalizing k with
  | nil => simp at h
  | cons a r ih =>
    cases k with
    | zero => simp at h; subst h; simp [List.filter]
    | succ k =>
      have := ih (k := k) (by simpa using h)
      cases a <;> simp [List.filter] <;> omega
theorem putF_len_none {f : Str} {v : V} : ∀ {fs : List (Str × V)}, fs.lookup f = none → (putF f v fs).length = fs.length + 1
  | [], _ => rfl
  | (g, x) :: r, h => by
    unfold putF
    by_cases z : g = f
    · subst z; simp [List.lookup] at h
    · rw [if_neg z]
      have e : (f == g) = false := by simpa using fun q : f = g => z q.symm
      simp only [List.lookup, e] at h
      simp [putF_len_none h]
theorem putF_len_some {f : Str} {v w : V} : ∀ {fs : List (Str × V)}, fs.lookup f = some w → (putF f v fs).length = fs.length
  | [], h => by cases h
  | (g, x) :: r, h => by
    unfold putF
    by_cases z : g = f
    · rw [if_pos z]; rfl
    · rw [if_neg z]
      have e : (f == g) = false := by simpa using fun q : f = g => z q.symm
      simp only [List.lookup, e] at h
      simp [putF_len_some h]
theorem nodup_get {l : List Str} (h : l.Nodup) {i j : Nat} {x : Str} (a : l[i]? = some x) (b : l[j]? = some x) : i = j := nd_ix h a b
/-- an object's attribute is set: new ghost g', the value's cell may be claimed -/
theorem sto_setF {K : PySem.W.Frag} {C : Cfg} {g g' : Gh} {H : Hp} {S : Sto} {i k : Nat} {ob : Ob} {a dx : Addr} {fs : List (Str × V)} {n : Str} {d : D} {v : V} (hC : CfgOk K C) (s : StoOk K C g H S) (hi : S[i]? = some ob) (hρ : g.ρ[i]? = some a) (o : ObOk K C g H i ob a dx fs)
    (hk : (C.fl ob.c)[k]? = some n) (hG : g'.G = g.G) (hρ' : g'.ρ = g.ρ) (ho : ∀ b w, g.own b = some w → g'.own b = some w) (hfro : ∀ b w, g'.own b = some w → g'.G b = none ∧ H b ≠ none)
    (hv : FldOk K C g' (upd H a (.ins (C.ca ob.c) dx (putF n v fs))) i k (C.ow ob.c k) (some d) (some v)) : StoOk K C g' (upd H a (.ins (C.ca ob.c) dx (putF n v fs))) (S.set i ⟨ob.c, ob.fs.set k (some d)⟩) := by
  have nea : ∀ {b w}, g.own b = some w → w ≠ .obj i → b ≠ a := fun {b w} h ne => own_inj h o.own ne
  refine ⟨fun b u h => ?_, fun b w h => ⟨(hfro b w h).1, ?_⟩, by rw [List.length_set, hρ']; exact s.rlen, fun j ob' hj => ?_⟩
  · rw [hG] at h
    have z : b ≠ a := fun z => by rw [z, (s.fro a _ o.own).1] at h; cases h
    rw [upd_ne z]; exact s.sub b u h
  · by_cases z : b = a
    · rw [z, upd_same]; exact fun z => by cases z
    · rw [upd_ne z]; exact (hfro b w h).2
  · by_cases z : i = j
    · subst z
      have hl : i < S.length := (List.getElem?_eq_some_iff.mp hi).1
      rw [List.getElem?_set_self hl] at hj
      cases hj
      have hkl : k < ob.fs.length := by rw [o.len]; exact (List.getElem?_eq_some_iff.mp hk).1
      refine ⟨a, dx, putF n v fs, by rw [hρ']; exact hρ, upd_same, ho _ _ o.own, by rw [List.length_set]; exact o.len, fun j m od hm hod => ?_, fun m hm => ?_, ?_⟩
      · by_cases z : k = j
        · subst z
          have e : m = n := by rw [hk] at hm; cases hm; rfl
          subst e
          have hod : (ob.fs.set k (some d))[k]? = some od := hod
          rw [List.getElem?_set_self hkl] at hod
          cases hod
          rw [lookup_putF, if_pos rfl]
          exact hv
        · have hod : (ob.fs.set k (some d))[j]? = some od := hod
          rw [List.getElem?_set_ne z] at hod
          have hm' : (C.fl ob.c)[j]? = some m := hm
          have ne : m ≠ n := fun q => z (nodup_get (hC.nd _) hk (q ▸ hm'))
          rw [lookup_putF, if_neg ne]
          have q := o.fld j m od hm' hod
          cases od with
          | none => exact q
          | some d' =>
            obtain ⟨v', q1, q2⟩ := q
            refine ⟨v', q1, ?_⟩
            by_cases hw : C.ow ob.c j = true
            · rw [if_pos hw] at q2 ⊢
              obtain ⟨p, hp, hop, hc⟩ := q2
              exact ⟨p, hp, ho _ _ hop, hc.mono (upd_ne (nea hop fun q => by cases q)) (by rw [hG]; exact Same.refl _) (by rw [hρ']; exact fun _ _ z => z)⟩
            · rw [if_neg hw] at q2 ⊢
              rw [hG, hρ']; exact q2
      · rw [lookup_putF, if_neg (fun q => hm (by rw [q]; exact List.mem_of_getElem? hk))]
        exact o.no m hm
      · show (putF n v fs).length ≤ cnt (ob.fs.set k (some d))
        obtain ⟨od, hod⟩ : ∃ od, ob.fs[k]? = some od := ⟨_, List.getElem?_eq_getElem hkl⟩
        have q := o.fld k n od hk hod
        cases od with
        | none => rw [putF_len_none q, cnt_set_none hod]; exact Nat.succ_le_succ o.few
        | some d' =>
          obtain ⟨v', q1, _⟩ := q
          rw [putF_len_some q1, cnt_set_some hod]; exact o.few
    · rw [List.getElem?_set_ne z] at hj
      obtain ⟨b, bx, bs, h1, o'⟩ := s.ob j ob' hj
      have hb : b ≠ a := own_inj o'.own o.own fun q => by cases q; exact z rfl
      refine ⟨b, bx, bs, by rw [hρ']; exact h1, by rw [upd_ne hb]; exact o'.at_, ho _ _ o'.own, o'.len, fun l m od hm hod => ?_, o'.no, o'.few⟩
      have q := o'.fld l m od hm hod
      cases od with
      | none => exact q
      | some d' =>
        obtain ⟨v', q1, q2⟩ := q
        refine ⟨v', q1, ?_⟩
        by_cases hw : C.ow ob'.c l = true
        · rw [if_pos hw] at q2 ⊢
          obtain ⟨p, hp, hop, hc⟩ := q2
          exact ⟨p, hp, ho _ _ hop, hc.mono (upd_ne (nea hop fun q => by cases q)) (by rw [hG]; exact Same.refl _) (by rw [hρ']; exact fun _ _ z => z)⟩
        · rw [if_neg hw] at q2 ⊢
          rw [hG, hρ']; exact q2
theorem few_lt {K : PySem.W.Frag} {C : Cfg} {g : Gh} {H : Hp} {i : Nat} {ob : Ob} {a dx : Addr} {fs : List (Str × V)} (hC : CfgOk K C) (o : ObOk K C g H i ob a dx fs) : fs.length < 1000 := by
  have h1 := o.few
  have h2 : cnt ob.fs ≤ ob.fs.length := List.length_filter_le _ _
  have h3 := o.len
  have h4 := hC.few ob.c
  omega
/-- o.f = e, o an object of the class c, f its k-th attribute -/
def wrF (c k : Nat) (d r : D) (S : Sto) : Option Sto := match r with
  | .ref i => match S[i]? with
    | some ob => if ob.c = c then some (S.set i ⟨ob.c, ob.fs.set k (some d)⟩) else none
    | none => none
  | _ => none
def mSetF (c k : Nat) (mo me : Mx D) : Ms := bindS me fun d => bindS mo fun r sl S => match wrF c k d r S with
  | some S' => .next sl S'
  | none => .stuck
theorem wrF_of {c k : Nat} {d r : D} {S S' : Sto} (h : wrF c k d r S = some S') : ∃ i ob, r = .ref i ∧ S[i]? = some ob ∧ ob.c = c ∧ S' = S.set i ⟨ob.c, ob.fs.set k (some d)⟩ := by
  unfold wrF at h
  split at h
  · split at h
    · rename_i ob hi
      split at h
      · rename_i hc
        cases h
        exact ⟨_, ob, rfl, hi, hc, rfl⟩
      · cases h
    · cases h
  · cases h
theorem rel_sto {K : PySem.W.Frag} {C : Cfg} {g g' : Gh} {H H' : Hp} {sl : List (Option D)} {S S' : Sto} {σ : L2.St} (r : Rel K C Γ g sl S σ H) (s : StoOk K C g' H' S') (hG : Same g.G g'.G) (hρ : ∀ (i : Nat) (a : Addr), g.ρ[i]? = some a → g'.ρ[i]? = some a)
    (k : ∀ p i, g.own p = some (.slot i) → g'.own p = some (.slot i) ∧ H' p = H p) : Rel K C Γ g' sl S' σ H' :=
  ⟨s, r.len, fun i d e q => let ⟨v, h1, h2⟩ := r.slF i d e q; ⟨v, h1, h2.mono hG hρ⟩, fun i d e q =>
    let ⟨p, h1, h2, h3⟩ := r.slO i d e q; ⟨p, h1, (k p i h2).1, h3.mono (k p i h2).2 hG hρ⟩, cau_mono hG hρ r.cau⟩
theorem csD0 {K : PySem.W.Frag} {E : Ends} {σ : L2.St} {sl : List (Option D)} {g g0 : Gh} {H H0 : Hp} {S : Sto} {m : Mx D} {k : D → Ms} {R : VK} (r : Rel K B.J.C Γ g sl S σ H) (st0 : Stp (cS B.J.lv) g0 H0 g H) (h : PSt K B Γ' E g0 H0 (bindS m k sl S)) (hX : leG B.ΓX Γ = true)
    (f : ∀ g1 H1 d S1 x, Stp (cE B.J.lv) g H g1 H1 → Rel K B.J.C Γ g1 sl S1 σ H1 → Rep K B.J.C g1.G g1.ρ d x → PSt K B Γ' E g0 H0 (k d sl S1) → R x H1) : tD K B.J Γ m σ H R := by
  refine tD_iff.mpr ⟨g, sl, S, r, ?_⟩
  unfold bindS at h
  cases e : m sl S with
  | ok d S' => rw [e] at h; exact fun g' H' v s r' b => f g' H' d S' v s r' b h
  | err x S' => rw [e] at h; exact (PSt.step st0 h).err hX
  | stuck => rw [e] at h; exact h
theorem ss_setF (c k : Nat) (hC : CfgOk X.K B.J.C) (ho : SD X B.J Γ o mo) (he : SD X B.J Γ e me) (hl : B.J.lv = true := by rfl) (hk : (B.J.C.fl c)[k]? = some f := by rfl) (hw : B.J.C.ow c k = false := by rfl) (hX : leG B.ΓX Γ = true := by rfl)
    (hs : swapsWith e (some (.Attribute o f pos')) pos.line X.env = pure false := by rfl) : SS X B Γ Γ (.Assign [.Attribute o f pos'] e pos) (mSetF c k mo me) :=
  PS.imp (ps_fld ho he hs) fun E σ H q => by
    obtain ⟨g, sl, S, rl, p⟩ := tSt_iff.mp q
    refine csD rl p hX fun g1 H1 d S1 y st1 r1 b1 p1 => ?_
    refine csD r1 p1 hX fun g2 H2 r S2 x st2 r2 b2 p2 => ?_
    cases ew : wrF c k d r S2 with
    | none => rw [ew] at p2; exact False.elim p2
    | some S' =>
      rw [ew] at p2
      obtain ⟨i, ob, rfl, hi, hc, rfl⟩ := wrF_of ew
      subst hc
      obtain ⟨a, dx, fs, hρ, ob'⟩ := r2.sto.ob i ob hi
      cases b2 with
      | ref hr =>
        rw [hρ] at hr; cases hr
        obtain ⟨hcl, hno⟩ := hC.at_ _ _ _ hk
        refine ⟨a, _, dx, fs, rfl, ob'.at_, hcl, hno, few_lt hC ob', ?_⟩
        have s' := sto_setF (g' := g2) hC r2.sto hi hρ ob' hk rfl rfl (fun _ _ z => z) r2.sto.fro (v := y) (d := d) ⟨y, rfl, by rw [hw, if_neg Bool.false_ne_true]; exact b1.step st2⟩
        refine p2 g2 _ σ (stp_upd ob'.own (by rw [hl]; rfl) (by rw [ob'.at_]; exact fun z => by cases z)) (rel_sto r2 s' (Same.refl _) (fun _ _ z => z) fun p j hp => ⟨hp, upd_ne (own_inj hp ob'.own fun z => by cases z)⟩)
/-- o.f = a new list, the object's own -/
theorem ss_ownF (c k : Nat) (hC : CfgOk X.K B.J.C) (ho : SD X B.J Γ o mo) (he : SN X B.J Γ e me) (hl : B.J.lv = true := by rfl) (hk : (B.J.C.fl c)[k]? = some f := by rfl) (hw : B.J.C.ow c k = true := by rfl) (hX : leG B.ΓX Γ = true := by rfl)
    (hs : swapsWith e (some (.Attribute o f pos')) pos.line X.env = pure false := by rfl) : SS X B Γ Γ (.Assign [.Attribute o f pos'] e pos) (mSetF c k mo me) :=
  PS.imp (ps_fld ho he hs) fun E σ H q => by
    obtain ⟨g, sl, S, rl, p⟩ := tSt_iff.mp q
    refine csN rl p hX fun g1 H1 d S1 y st1 r1 b1 n1 p1 => ?_
    obtain ⟨pa, rfl, f1, f2, f3⟩ := b1
    refine csD0 r1 st1.toS p1 hX fun g2 H2 r S2 x st2 r2 b2 p2 => ?_
    obtain ⟨oo, hoo⟩ := f3.there
    have k1 : H2 pa = some oo := st2.fr pa _ hoo fun w hw => by rw [f1] at hw; cases hw
    have k2 : g2.own pa = none := by
      cases q : g2.own pa with
      | none => rfl
      | some w =>
        rcases st2.nw _ _ q with z | z
        · rw [f1] at z; cases z
        · rw [hoo] at z; cases z
    have k3 : g2.G pa = none := by
      cases q : g2.G pa with
      | none => rfl
      | some w =>
        rcases st2.ng _ _ q with z | z | ⟨w', z, _⟩
        · rw [f2] at z; cases z
        · rw [hoo] at z; cases z
        · rw [f1] at z; cases z
    have k4 : Cell X.K B.J.C g2 H2 pa d := f3.mono (by rw [k1, hoo]) st2.gG st2.ro
    cases ew : wrF c k d r S2 with
    | none => rw [ew] at p2; exact False.elim p2
    | some S' =>
      rw [ew] at p2
      obtain ⟨i, ob, rfl, hi, hc, rfl⟩ := wrF_of ew
      subst hc
      obtain ⟨a, dx, fs, hρ, ob'⟩ := r2.sto.ob i ob hi
      cases b2 with
      | ref hr =>
        rw [hρ] at hr; cases hr
        obtain ⟨hcl, hno⟩ := hC.at_ _ _ _ hk
        refine ⟨a, _, dx, fs, rfl, ob'.at_, hcl, hno, few_lt hC ob', ?_⟩
        have nap : pa ≠ a := fun z => by rw [z, ob'.own] at k2; cases k2
        have hown : ∀ b w, g2.own b = some w → (g2.claim pa (.fld i k)).own b = some w := fun b w h => by
          show (if b = pa then _ else g2.own b) = _
          rw [if_neg (fun z => by rw [z, k2] at h; cases h)]; exact h
        have s2 := claim_sto (w := .fld i k) r2.sto k2 k3 (by rw [k1]; exact fun z => by cases z)
        have s' := sto_setF (g' := g2.claim pa (.fld i k)) hC r2.sto hi hρ ob' hk rfl rfl hown s2.fro (v := .ref pa) (d := d)
          ⟨_, rfl, by rw [hw, if_pos rfl]; exact ⟨pa, rfl, by show (if pa = pa then _ else _) = _; rw [if_pos rfl], k4.mono (upd_ne nap) (Same.refl _) fun _ _ z => z⟩⟩
        have st3 : Stp (cS B.J.lv) g H (g2.claim pa (.fld i k)) H2 := claim_stp (st1.trans st2).toS (n1 pa rfl) k2
        have st4 : Stp (cS B.J.lv) (g2.claim pa (.fld i k)) H2 (g2.claim pa (.fld i k)) (upd H2 a (.ins (B.J.C.ca ob.c) dx (putF f (.ref pa) fs))) := stp_upd (hown _ _ ob'.own) (by rw [hl]; rfl) (by rw [ob'.at_]; exact fun z => by cases z)
        exact p2 _ _ σ (st3.trans st4) (rel_sto r2 s' (Same.refl _) (fun _ _ z => z) fun p j hp => ⟨hown _ _ hp, upd_ne (own_inj hp ob'.own fun z => by cases z)⟩)
end
end Sm
set_option Elab.async false
set_option linter.all false
set_option maxRecDepth 100000
set_option maxHeartbeats 1000000
/-! Sim 9: an object's own list is changed; augmented assignments. -/
namespace Sm
open PySem PySem.Spec PyProof.Rows L2

theorem csDsN {K : PySem.W.Frag} {B : Js} {Γ Γ' : List Bool} {E : Ends} {σ : L2.St} {sl : List (Option D)} {g : Gh} {H : Hp} {S : Sto} {m : Mx (List D)} {k : List D → Ms} {R : List V → Hp → Prop} (r : Rel K B.J.C Γ g sl S σ H) (h : PSt K B Γ' E g H (bindS m k sl S)) (hX : leG B.ΓX Γ = true)
    (f : ∀ g1 H1 d S1 x, Stp (cE false) g H g1 H1 → Rel K B.J.C Γ g1 sl S1 σ H1 → Reps K B.J.C g1.G g1.ρ d x → PSt K B Γ' E g1 H1 (k d sl S1) → R x H1) : tDs K { B.J with lv := false } Γ m σ H R := by
  refine tDs_iff.mpr ⟨g, sl, S, r, ?_⟩
  unfold bindS at h
  cases e : m sl S with
  | ok d S' => rw [e] at h; exact fun g' H' v s r' b => f g' H' d S' v s r' b (PSt.step (Stp.toSA (Stp.toS (lv := false) s)) h)
  | err x S' => rw [e] at h; exact fun g' H' cls dx st rl e => h.err hX g' H' cls dx st.toA rl e
  | stuck => rw [e] at h; exact h

/-- what an attribute's own list holds is changed -/
theorem sto_updF {K : PySem.W.Frag} {C : Cfg} {g : Gh} {H : Hp} {S : Sto} {i k : Nat} {ob : Ob} {p : Addr} {o : HO} {d d0 : D} {n : Str} (hC : CfgOk K C) (s : StoOk K C g H S) (hi : S[i]? = some ob) (hk : (C.fl ob.c)[k]? = some n) (hw : C.ow ob.c k = true) (hd0 : ob.fs[k]? = some (some d0))
    (hp : g.own p = some (.fld i k)) (hlk : ∀ a dx fs, g.ρ[i]? = some a → ObOk K C g H i ob a dx fs → fs.lookup n = some (.ref p)) (hc : Cell K C g (upd H p o) p d) : StoOk K C g (upd H p o) (S.set i ⟨ob.c, ob.fs.set k (some d)⟩) := by
  refine ⟨sub_upd s hp, fun b w h => ⟨(s.fro b w h).1, ?_⟩, by rw [List.length_set]; exact s.rlen, fun j ob' hj => ?_⟩
  · by_cases z : b = p
    · rw [z, upd_same]; exact fun z => by cases z
    · rw [upd_ne z]; exact (s.fro b w h).2
  · by_cases z : i = j
    · subst z
      have hl : i < S.length := (List.getElem?_eq_some_iff.mp hi).1
      rw [List.getElem?_set_self hl] at hj
      cases hj
      obtain ⟨a, dx, fs, h1, o'⟩ := s.ob i ob hi
      have hkl : k < ob.fs.length := by rw [o'.len]; exact (List.getElem?_eq_some_iff.mp hk).1
      refine ⟨a, dx, fs, h1, by rw [upd_ne (own_inj o'.own hp fun q => by cases q)]; exact o'.at_, o'.own, by rw [List.length_set]; exact o'.len, fun j m od hm hod => ?_, o'.no, ?_⟩
      · by_cases z : k = j
        · subst z
          have hod : (ob.fs.set k (some d))[k]? = some od := hod
          rw [List.getElem?_set_self hkl] at hod
          cases hod
          have e : m = n := by
            have hm' : (C.fl ob.c)[k]? = some m := hm
            rw [hk] at hm'; cases hm'; rfl
          subst e
          exact ⟨.ref p, hlk a dx fs h1 o', by rw [hw, if_pos rfl]; exact ⟨p, rfl, hp, hc⟩⟩
        · have hod : (ob.fs.set k (some d))[j]? = some od := hod
          rw [List.getElem?_set_ne z] at hod
          have q := o'.fld j m od hm hod
          cases od with
          | none => exact q
          | some d' =>
            obtain ⟨v', q1, q2⟩ := q
            refine ⟨v', q1, ?_⟩
            by_cases hw' : C.ow ob.c j = true
            · rw [if_pos hw'] at q2 ⊢
              obtain ⟨p', hp', hop, hc'⟩ := q2
              exact ⟨p', hp', hop, hc'.mono (upd_ne (own_inj hop hp fun q => by cases q; exact z rfl)) (Same.refl _) fun _ _ z => z⟩
            · rw [if_neg hw'] at q2 ⊢
              exact q2
      · show fs.length ≤ cnt (ob.fs.set k (some d))
        rw [cnt_set_some hd0]; exact o'.few
    · rw [List.getElem?_set_ne z] at hj
      obtain ⟨b, bx, bs, h1, o'⟩ := s.ob j ob' hj
      refine ⟨b, bx, bs, h1, by rw [upd_ne (own_inj o'.own hp fun q => by cases q)]; exact o'.at_, o'.own, o'.len, fun l m od hm hod => ?_, o'.no, o'.few⟩
      have q := o'.fld l m od hm hod
      cases od with
      | none => exact q
      | some d' =>
        obtain ⟨v', q1, q2⟩ := q
        refine ⟨v', q1, ?_⟩
        by_cases hw' : C.ow ob'.c l = true
        · rw [if_pos hw'] at q2 ⊢
          obtain ⟨p', hp', hop, hc'⟩ := q2
          exact ⟨p', hp', hop, hc'.mono (upd_ne (own_inj hop hp fun q => by cases q; exact z rfl)) (Same.refl _) fun _ _ z => z⟩
        · rw [if_neg hw'] at q2 ⊢
          exact q2

/-- the k-th attribute of the object r, of class c -/
def getF (c k : Nat) (r : D) (S : Sto) : Option (Nat × Ob × D) := match r with
  | .ref i => match S[i]? with
    | some ob => if ob.c = c then match ob.fs[k]? with
      | some (some d) => some (i, ob, d)
      | _ => none else none
    | none => none
  | _ => none
theorem getF_of {c k : Nat} {r : D} {S : Sto} {i : Nat} {ob : Ob} {d : D} (h : getF c k r S = some (i, ob, d)) : r = .ref i ∧ S[i]? = some ob ∧ ob.c = c ∧ ob.fs[k]? = some (some d) := by
  unfold getF at h
  split at h
  · split at h
    · split at h
      · split at h
        · cases h
          refine ⟨rfl, by assumption, by assumption, by assumption⟩
        · cases h
      · cases h
    · cases h
  · cases h
/-- o.f.m(args), f an own list of o's -/
def mOwnF (f : D → List D → Option (D × D)) (c k : Nat) (mo : Mx D) (ma : Mx (List D)) (kk : D → Ms) : Ms := bindS mo fun r sl S => match getF c k r S with
  | some (_, _, d) => if isLst d = true then bindS ma (fun as sl S2 => match getF c k r S2 with
    | some (i, ob, d2) => match f d2 as with
      | some (z, d') => kk z sl (S2.set i ⟨ob.c, ob.fs.set k (some d')⟩)
      | none => .stuck
    | none => .stuck) sl S else .stuck
  | none => .stuck
section
variable {X : Cx} {B : Js} {Γ Γ' : List Bool} {o e call tg : Expr} {mo me : Mx D} {ms : Mx (List D)} {fn : Str} {pos pos' tpos : Pos} {r : V → List V → Hp → VK → Prop} {f : D → List D → Option (D × D)} {t : Tg} {gt : TG} {vs : List Nat}
theorem ownF_run {K : PySem.W.Frag} {E : Ends} {σ : L2.St} {H : Hp} {c k : Nat} {kk : D → Ms} {R : VK} {ta : TA} (hC : CfgOk K B.J.C) (hf : OwnOp K r f) (hl : B.J.lv = true) (hk : (B.J.C.fl c)[k]? = some fn) (hw : B.J.C.ow c k = true) (hX : leG B.ΓX Γ = true) (ha : ∀ σ H Q, tDs K { B.J with lv := false } Γ ms σ H Q → ta σ H Q)
    (q : tSt K B Γ Γ' (mOwnF f c k mo ms kk) E σ H)
    (h : ∀ g' H' d v sl' S', Rel K B.J.C Γ g' sl' S' σ H' → Rep K B.J.C g'.G g'.ρ d v → PSt K B Γ' E g' H' (kk d sl' S') → R v H') :
    tBM K "list" r (tFld K (tD K B.J Γ mo) fn) ta σ H R := by
  obtain ⟨g, sl, S, rl, p⟩ := tSt_iff.mp q
  refine csD rl p hX fun g1 H1 ro S1 x st1 r1 b1 p1 => ?_
  cases e0 : getF c k ro S1 with
  | none => rw [e0] at p1; exact False.elim p1
  | some w =>
    obtain ⟨i, ob, d⟩ := w
    rw [e0] at p1
    obtain ⟨rfl, hi, hc, hd⟩ := getF_of e0
    subst hc
    have p1 : PSt K B Γ' E g1 H1 (if isLst d = true then bindS ms (fun as sl S2 => match getF ob.c k (.ref i) S2 with
      | some (i, ob, d2) => match f d2 as with
        | some (z, d') => kk z sl (S2.set i ⟨ob.c, ob.fs.set k (some d')⟩)
        | none => .stuck
      | none => .stuck) sl S1 else .stuck) := p1
    by_cases hl' : isLst d = true
    · rw [if_pos hl'] at p1
      obtain ⟨a, dx, fs, hρ, o1⟩ := r1.sto.ob i ob hi
      cases b1 with
      | ref hr =>
        rw [hρ] at hr; cases hr
        obtain ⟨hcl, hno⟩ := hC.at_ _ _ _ hk
        obtain ⟨v, q1, q2⟩ := o1.fld k fn (some d) hk hd
        rw [hw, if_pos rfl] at q2
        obtain ⟨pa, rfl, hp, cl⟩ := q2
        have ty : tyV K "list" (.ref pa) H1 := by
          cases d <;> first | cases hl' | skip
          obtain ⟨us, e, _⟩ := cl
          exact Or.inl ⟨rfl, us, SqL.of e⟩
        refine ⟨a, _, dx, fs, .ref pa, rfl, o1.at_, hcl, hno, q1, ty, ha _ _ _ (csDsN r1 p1 hX fun g2 H2 as S2 ws st2 r2 b2 p2 => ?_)⟩
        cases e2 : getF ob.c k (.ref i) S2 with
        | none => rw [e2] at p2; exact False.elim p2
        | some w =>
          obtain ⟨i', ob2, d2⟩ := w
          rw [e2] at p2
          obtain ⟨z, hi2, hc2, hd2⟩ := getF_of e2
          cases z
          have p2 : PSt K B Γ' E g2 H2 (match f d2 as with | some (z, d') => kk z sl (S2.set i ⟨ob2.c, ob2.fs.set k (some d')⟩) | none => .stuck) := p2
          cases ef : f d2 as with
          | none => rw [ef] at p2; exact False.elim p2
          | some zd =>
            obtain ⟨z, d'⟩ := zd
            rw [ef] at p2
            obtain ⟨a2, dx2, fs2, hρ2, o2⟩ := r2.sto.ob i ob2 hi2
            have ea : a2 = a := by have := st2.ro i a hρ; rw [hρ2] at this; cases this; rfl
            subst ea
            have k1 : H2 a2 = some (.ins (B.J.C.ca ob.c) dx fs) := st2.fr a2 _ o1.at_ fun w hw' => by rw [o1.own] at hw'; cases hw'; rfl
            have efs : fs2 = fs := by have q := o2.at_; rw [hc2, k1] at q; cases q; rfl
            subst efs
            have hk2 : (B.J.C.fl ob2.c)[k]? = some fn := by rw [hc2]; exact hk
            have hw2 : B.J.C.ow ob2.c k = true := by rw [hc2]; exact hw
            obtain ⟨v2, q3, q4⟩ := o2.fld k fn (some d2) hk2 hd2
            rw [hw2, if_pos rfl] at q4
            obtain ⟨p2a, rfl, hp2, cl2⟩ := q4
            have ep : p2a = pa := by rw [q1] at q3; cases q3; rfl
            subst ep
            refine hf B.J.C g2 H2 p2a d2 z d' as ws R ef cl2 b2 fun v oo hv hcc => ?_
            have s' := sto_updF (d := d') hC r2.sto hi2 hk2 hw2 hd2 hp2 (fun a3 dx3 fs3 h3 o3 => by
              rw [hρ2] at h3; cases h3
              have q := o3.at_; rw [o2.at_] at q; cases q
              exact q3) hcc
            refine h g2 _ z v sl _ (rel_sto r2 s' (Same.refl _) (fun _ _ z => z) fun p' j hp' => ⟨hp', upd_ne (own_inj hp' hp2 fun z => by cases z)⟩) hv (PSt.step (stp_upd hp2 (by rw [hl]; rfl) (r2.sto.fro _ _ hp2).2) p2)
    · rw [if_neg hl'] at p1
      exact False.elim p1
theorem ss_fldDo (c k : Nat) (hC : CfgOk X.K B.J.C) (hc : PE X call (tBM X.K "list" r (tFld X.K (tD X.K B.J Γ mo) fn) (tDs X.K { B.J with lv := false } Γ ms))) (hf : OwnOp X.K r f) (hl : B.J.lv = true := by rfl) (hk : (B.J.C.fl c)[k]? = some fn := by rfl) (hw : B.J.C.ow c k = true := by rfl) (hX : leG B.ΓX Γ = true := by rfl)
    (hs : swapsWith call none pos.line X.env = pure false := by rfl) : SS X B Γ Γ (.Expr call pos) (mOwnF f c k mo ms fun _ => mSkip) :=
  PS.imp (ps_expr hc hs) fun E σ H q => ownF_run (K := X.K) hC hf hl hk hw hX (fun _ _ _ z => z) q fun g' H' d v sl' S' rl hv p => p g' H' σ Stp.refl rl
theorem ss_fldDo0 (c k : Nat) (hC : CfgOk X.K B.J.C) (hc : PE X call (tBM0 X.K "list" r (tFld X.K (tD X.K B.J Γ mo) fn))) (hf : OwnOp X.K r f) (hl : B.J.lv = true := by rfl) (hk : (B.J.C.fl c)[k]? = some fn := by rfl) (hw : B.J.C.ow c k = true := by rfl) (hX : leG B.ΓX Γ = true := by rfl)
    (hs : swapsWith call none pos.line X.env = pure false := by rfl) : SS X B Γ Γ (.Expr call pos) (mOwnF f c k mo mNil fun _ => mSkip) :=
  PS.imp (ps_expr hc hs) fun E σ H q =>
    (ownF_run (K := X.K) (R := fun _ H1 => E.nx σ H1) hC hf hl hk hw hX nil_run q fun g' H' d v sl' S' rl hv p => p g' H' σ Stp.refl rl : tBM X.K "list" r (tFld X.K (tD X.K B.J Γ mo) fn) tNil σ H fun _ H1 => E.nx σ H1)
theorem ss_fldGet0 (c k : Nat) (hC : CfgOk X.K B.J.C) (hc : PE X call (tBM0 X.K "list" r (tFld X.K (tD X.K B.J Γ mo) fn))) (hf : OwnOp X.K r f) (hg : STg X B.J.C Γ Γ' vs tg t gt) (hl : B.J.lv = true := by rfl) (hk : (B.J.C.fl c)[k]? = some fn := by rfl) (hw : B.J.C.ow c k = true := by rfl) (hX : leG B.ΓX Γ = true := by rfl)
    (hs : swapsWithSole [tg] call pos.line X.env = pure false := by rfl) (hsw : swappedStores [tg] call X.env = pure none := by rfl) (h1 : (assignEach [tg] X.env).map (·.2) = [assign tg X.env] := by rfl) :
    SS X B Γ Γ' (.Assign [tg] call pos) (mOwnF f c k mo mNil fun d sl S => match t d sl with | some sl' => .next sl' S | none => .stuck) :=
  PS.imp (ps_asg hc hg.1 hs hsw h1) fun E σ H q =>
    (ownF_run (K := X.K) (R := fun x H1 => gt x σ H1 E.nx) hC hf hl hk hw hX nil_run q fun g' H' d v sl' S' rl hv p => by
      cases et : t d sl' with
      | none => rw [et] at p; exact False.elim p
      | some sl2 =>
        rw [et] at p
        exact hg.2 g' sl' sl2 S' σ H' d v _ rl hv et fun σ' _ r' => p g' H' σ' Stp.refl r' : tBM X.K "list" r (tFld X.K (tD X.K B.J Γ mo) fn) tNil σ H fun x H1 => gt x σ H1 E.nx)

/-! ### augmented assignments -/
def mAug (f : D → D → Option D) (i : Nat) (me : Mx D) : Ms := fun sl S => match sl[i]? with
  | some (some d) => bindS me (fun e sl S => match f d e with
    | some z => .next (sl.set i (some z)) S
    | none => .stuck) sl S
  | _ => .stuck
theorem ss_aug {x : Str} {op : Operator} {r2 : R2} {f2 : D → D → Option D} (i : Nat) (hN : X.N.Nodup) (ho : OpR X (inplaceOp op) r2) (hf : Op2 X.K r2 f2) (he : SD X B.J Γ e me) (hΓ : Γ.getD i false = false := by rfl) (hX : leG B.ΓX Γ = true := by rfl) (hi : X.N[i]? = some x := by rfl) (hx : Loc X.env.scope x := by first | exact Or.inl rfl | exact Or.inr rfl)
    (hfn : X.fn x = true ∨ X.env.scope.names.lookup x = some .local := by first | exact .inl rfl | exact .inr rfl | assumption) : SS X B Γ Γ (.AugAssign (.Name x pos') op e pos) (mAug f2 i me) :=
  PS.imp (ps_aug hN hi hx he (fun pins s σ H x y v u Q I rx ry q => ho pins s σ H x y v u Q I rx ry q) hfn) fun E σ H q => by
    obtain ⟨g, sl, S, rl, p⟩ := tSt_iff.mp q
    unfold mAug at p
    cases e0 : sl[i]? with
    | none => rw [e0] at p; exact False.elim p
    | some od =>
      cases od with
      | none => rw [e0] at p; exact False.elim p
      | some d =>
        rw [e0] at p
        obtain ⟨v, h1, h2⟩ := rl.slF i d e0 hΓ
        refine ⟨v, h1, csD (B := B) (Γ' := Γ) (E := E) rl p hX fun g1 H1 de S1 y st1 r1 b1 p1 => ?_⟩
        cases ef : f2 d de with
        | none => rw [ef] at p1; exact False.elim p1
        | some z =>
          rw [ef] at p1
          exact hf B.J Γ σ sl g1 H1 S1 _ d de z v y ef r1 (.inl (h2.step st1)) (.inl b1) fun g2 H2 w st2 r2' rw' => p1 g2 H2 _ st2.toS (rel_set r2' rw' hΓ)
/-- o.f op= e: ints -/
def mAugF (f : Int → Int → Int) (c k : Nat) (mo me : Mx D) : Ms := bindS mo fun r sl S => match getF c k r S with
  | some (_, _, .int i) => bindS me (fun e sl S2 => match e with
    | .int j => match wrF c k (.int (f i j)) r S2 with
      | some S' => .next sl S'
      | none => .stuck
    | _ => .stuck) sl S
  | _ => .stuck
theorem ss_augF {op : Operator} {rd : V → V → Hp → VK → Prop} {h : Int → Int → Int} (c k : Nat) (hC : CfgOk X.K B.J.C) (hop : InOp X op rd) (hrd : ∀ i j H (Q : VK), Q (.int (h i j)) H → rd (.int i) (.int j) H Q) (ho : SD X B.J Γ o mo) (he : SD X B.J Γ e me)
    (hl : B.J.lv = true := by rfl) (hk : (B.J.C.fl c)[k]? = some fn := by rfl) (hw : B.J.C.ow c k = false := by rfl) (hX : leG B.ΓX Γ = true := by rfl) : SS X B Γ Γ (.AugAssign (.Attribute o fn tpos) op e pos) (mAugF h c k mo me) :=
  PS.imp (ps_fldaug ho he hop) fun E σ H q => by
    obtain ⟨g, sl, S, rl, p⟩ := tSt_iff.mp q
    refine csD rl p hX fun g1 H1 ro S1 x st1 r1 b1 p1 => ?_
    cases e0 : getF c k ro S1 with
    | none => rw [e0] at p1; exact False.elim p1
    | some w =>
      obtain ⟨i, ob, d⟩ := w
      rw [e0] at p1
      obtain ⟨rfl, hi, hc, hd⟩ := getF_of e0
      subst hc
      cases d <;> first | exact False.elim p1 | skip
      rename_i z
      obtain ⟨a, dx, fs, hρ, o1⟩ := r1.sto.ob i ob hi
      cases b1 with
      | ref hr =>
        rw [hρ] at hr; cases hr
        obtain ⟨hcl, hno⟩ := hC.at_ _ _ _ hk
        obtain ⟨v, q1, q2⟩ := o1.fld k fn _ hk hd
        rw [hw, if_neg Bool.false_ne_true] at q2
        cases q2
        refine ⟨a, _, dx, fs, .int z, rfl, o1.at_, hcl, hno, q1, csD (B := B) (Γ' := Γ) (E := E) r1 p1 hX fun g2 H2 de S2 y st2 r2 b2 p2 => ?_⟩
        cases de <;> first | exact False.elim p2 | skip
        rename_i j
        cases b2
        refine hrd z j H2 _ ?_
        have p2 : PSt X.K B Γ E g2 H2 (match wrF ob.c k (.int (h z j)) (.ref i) S2 with | some S' => .next sl S' | none => .stuck) := p2
        cases ew : wrF ob.c k (.int (h z j)) (.ref i) S2 with
        | none => rw [ew] at p2; exact False.elim p2
        | some S' =>
          rw [ew] at p2
          obtain ⟨i', ob2, z', hi2, hc2, rfl⟩ := wrF_of ew
          cases z'
          obtain ⟨a2, dx2, fs2, hρ2, o2⟩ := r2.sto.ob i ob2 hi2
          have ea : a2 = a := by have := st2.ro i a hρ; rw [hρ2] at this; cases this; rfl
          subst ea
          have hk2 : (B.J.C.fl ob2.c)[k]? = some fn := by rw [hc2]; exact hk
          have hw2 : B.J.C.ow ob2.c k = false := by rw [hc2]; exact hw
          have s' := sto_setF (g' := g2) (d := .int (h z j)) (v := .int (h z j)) hC r2.sto hi2 hρ2 o2 hk2 rfl rfl (fun _ _ z => z) r2.sto.fro ⟨_, rfl, by rw [hw2, if_neg Bool.false_ne_true]; exact .int _⟩
          have hat := o2.at_
          rw [hc2] at hat s'
          refine ⟨dx2, fs2, hat, few_lt hC o2, ?_⟩
          rw [hc2] at p2
          exact p2 g2 _ σ (stp_upd o2.own (by rw [hl]; rfl) (by rw [hat]; exact fun z => by cases z)) (rel_sto r2 s' (Same.refl _) (fun _ _ z => z) fun p j hp => ⟨hp, upd_ne (own_inj hp o2.own fun z => by cases z)⟩)
end
end Sm
set_option Elab.async false
set_option linter.all false
set_option maxRecDepth 100000
set_option maxHeartbeats 2000000
/-! Sim 10: try with several clauses, each with or without a name. -/
namespace Sm
open PySem PySem.Spec PyProof.Rows L2

/-- the ends of a suite whose clause names slot i -/
def endsAs (D : Ends) (i : Nat) : Ends := ⟨fun σ' H' => D.nx (σ'.set i none) H', D.rt, fun σ' H' => D.bk (σ'.set i none) H', fun σ' H' => D.ct (σ'.set i none) H'⟩
abbrev Clause := Value × Option Nat × (Addr → Value → Option Addr → TS)
def wMix (K : PySem.W.Frag) (Wout : WX) (D : Ends) : List Clause → WX
  | [] => Wout
  | (c, oi, ts) :: r => fun cls d σ H => ∃ b, PySem.W.exmOne K cls c = some b ∧
      (b = true → ∀ a, H a = none → match oi with
        | none => ts a cls d D σ H
        | some i => ts a cls d (endsAs D i) (σ.set i (some (.ref a))) H) ∧ (b = false → wMix K Wout D r cls d σ H)
inductive HMix (X : Cx) : List ExceptHandler → List Clause → Prop
  | nil : HMix X [] []
  | one {x : Str} {c : Value} {ts : Addr → Value → Option Addr → TS} {b₀ : Stmt} {su : List Stmt} {np p' : Pos} {hds : List ExceptHandler} {l : List Clause} (hc : Names X x c)
      (hsu : ∀ (a : Addr) (oe : Obj) (cls : Value) (d : Option Addr) (pn : List (Addr × Obj)), L2N.Zn cls d oe → (∃ vs, oe.data = .fields vs) → PSs (X.suite a ((a, oe) :: pn)) (b₀ :: su) (ts a cls d)) (r : HMix X hds l) :
      HMix X (.ExceptHandler (some (.Name x np)) none (b₀ :: su) p' :: hds) ((c, none, ts) :: l)
  | as {x n : Str} {i : Nat} {c : Value} {ts : Addr → Value → Option Addr → TS} {b₀ : Stmt} {su : List Stmt} {np p' : Pos} {hds : List ExceptHandler} {l : List Clause} (hc : Names X x c) (hN : X.N.Nodup) (hi : X.N[i]? = some n) (hln : X.env.kindOf n = some .local)
      (hsu : ∀ (a : Addr) (oe : Obj) (cls : Value) (d : Option Addr) (pn : List (Addr × Obj)), L2N.Zn cls d oe → (∃ vs, oe.data = .fields vs) → PSs (X.suite a ((a, oe) :: pn)) (b₀ :: su) (ts a cls d)) (r : HMix X hds l) :
      HMix X (.ExceptHandler (some (.Name x np)) (some n) (b₀ :: su) p' :: hds) ((c, some i, ts) :: l)
section
variable {X : Cx} {pins : List (Addr × Obj)} {D : Ends} {Wout : WX}
/-- the flow behind a body or a suite whose invariant is of X again -/
theorem sp_map {X' : Cx} {pn : List (Addr × Obj)} {f : Flow} {s6 : Shared} (k : ∀ σ6 H6, Inv X' pn σ6 H6 s6 → Inv X pins σ6 H6 s6) (h : L2.SP X' pn D f s6) : L2.SP X pins D f s6 := by
  cases f with
  | ret u => let ⟨v6, σ6, H6, S6, r6, q6⟩ := h; exact ⟨v6, σ6, H6, k _ _ S6, r6, q6⟩
  | next => let ⟨σ6, H6, S6, q6⟩ := h; exact ⟨σ6, H6, k _ _ S6, q6⟩
  | brk => let ⟨σ6, H6, S6, q6⟩ := h; exact ⟨σ6, H6, k _ _ S6, q6⟩
  | cont => let ⟨σ6, H6, S6, q6⟩ := h; exact ⟨σ6, H6, k _ _ S6, q6⟩
theorem mix_go (ok : X.Ok) (hs : X.stack = X.env :: X.outer) (hf : X.env.frame = some X.env.locals) (tk : L2N.Takes X Wout) {a : Addr} {B : Heap} {sI s' : Shared} {σ' : L2.St} {H' : Hp} {cls : Value} {d : Option Addr} {h3 : Heap}
    (J : Inv X pins σ' H' sI) (nb : ∀ b o, sI.heap.get? b = some o → b ∉ frs X.stack → B.get? b = some o) (up : sI.heap.UpToSlots s'.heap) (up3 : s'.heap.UpToSlots h3) (na : H' a = none) (os : s'.os = sI.os) (ag : AllBare s'.gens)
    (fl3 : HandSPX.FlyingZ B (X.env :: X.outer) a (L2N.Zn cls d) h3) : ∀ {hds : List ExceptHandler} {l : List Clause}, HMix X hds l → wMix X.K Wout D l cls d σ' H' →
      wpAny (model X.prog X.w) X.A (handleBy (.ref a) X.env hds) (L2.SP X pins D) X.xe { s' with heap := h3 } := by
  have J3 : Inv X pins σ' H' { s' with heap := h3 } := J.landed nb fl3.1 (up.trans up3) os ag
  obtain ⟨oe3, vs3, he3, hz3, hd3⟩ := fl3.there
  have nfr : a ∉ frs (X.env :: X.outer) := fun hm => by
    obtain ⟨_, o', e', hnf⟩ := fl3.2.2.1.mem hm
    rw [he3] at e'; cases e'; exact hnf _ hd3
  have nL : a ≠ X.env.locals := fun z => nfr (List.mem_filterMap.mpr ⟨X.env, List.mem_cons_self, by rw [hf, z]⟩)
  have nF : a ∉ X.fs := fun hm => by
    obtain ⟨e, he, q⟩ := List.mem_filterMap.mp hm
    exact nfr (List.mem_filterMap.mpr ⟨e, .tail _ he, q⟩)
  have S3 := J3.suite he3 hd3 na nL nF
  have LT : PySem.W.Looks (model X.prog X.w) h3 (typeOf (.ref a)) cls := fun A Q E s k q => wpAny_typeOf_ref (k _ _ he3) (by rw [hz3.1]; exact q)
  have test : ∀ {x : Str} {np : Pos} {c : Value} {Q : Value → Shared → Prop} {E : Value → Shared → Prop}, Names X x c → Q c { s' with heap := h3 } →
      wpAny (model X.prog X.w) (X.A.mark (some (.ref a))) (eval (.Name x np) X.env) Q E { s' with heap := h3 } := fun {x np c Q E} hc q => by
    rcases hc with ⟨hg, hdbg, hm | ⟨hm, hv, hnn⟩⟩
    · exact ld_glob (X := X.suite a ((a, oe3) :: (X.pn ++ pins))) S3 hg hm q hdbg
    · exact ld_blt (X := X.suite a ((a, oe3) :: (X.pn ++ pins))) S3 hg hm hv q hnn hdbg
  intro hds l hk
  induction hk with
  | nil =>
    intro w
    obtain ⟨_, _, _, oe, vs, T, oT, ts', he, hz, hd, h1, hr⟩ := id fl3
    refine wpAny_handleBy_nil ?_
    unfold PySem.passOn
    refine wpAny_bind (wpAny_field he hd h1 ?_)
    rw [if_neg (by simp : ¬ ((Value.ref T == Value.none) = true))]
    have fin : wpAny (model X.prog X.w) X.A (setFlight (.ref a) X.env.frame) (fun _ s4 => wpAny (model X.prog X.w) X.A (throw (.ref a) : Sem Flow) (L2.SP X pins D) X.xe s4) X.xe { s' with heap := h3 } := by
      rw [hf]
      exact HandSPX.setFlight_upZ fl3 fun h4 hh4 up4 => wpAny_throw (tk _ _ ⟨a, B, sI, pins, σ', H', cls, d, rfl, J, nb, (up.trans up3).trans up4, .inr (.inr (by rw [hs]; exact hh4)), na, os, ag, w⟩)
    first | exact wpAny_bind (wpAny_pure (wpAny_bind fin)) | exact wpAny_bind fin
  | @one x c ts b₀ su np p' hds2 l2 hc hsu r ih =>
    rintro ⟨b, hb1, hyes, hno⟩
    have LM := PySem.W.exm_one (M := model X.prog X.w) J3.kIn LT hb1
    refine wpAny_handleBy_cons (codeAny_handlers_test (test hc (LM.here ?_))) (by intro q; cases q)
    cases b with
    | false => exact (ih (hno rfl) : wpAny _ X.A (handleBy (.ref a) X.env hds2) _ _ _)
    | true =>
      refine codeAny_handlers_suite (HandSPX.lands_againZ fl3 fun h4 fl4 up4 => ?_)
      have J4 : Inv X pins σ' H' { s' with heap := h4 } := J.landed nb fl4.1 ((up.trans up3).trans up4) os ag
      obtain ⟨oe4, vs4, he4, hz4, hd4⟩ := fl4.there
      exact wpAny_mono ((hsu a oe4 cls d (X.pn ++ pins) hz4 ⟨_, hd4⟩).run [] _ _ H' _ (J4.suite he4 hd4 na nL nF) (hyes rfl a na)) (fun f s6 hsp => sp_map (fun _ _ S6 => S6.unsuite ok) hsp) fun _ _ z => False.elim z
  | @as x n i c ts b₀ su np p' hds2 l2 hc hN hi hln hsu r ih =>
    rintro ⟨b, hb1, hyes, hno⟩
    have LM := PySem.W.exm_one (M := model X.prog X.w) J3.kIn LT hb1
    refine wpAny_handleBy_cons (codeAny_handlers_test (test hc (LM.here ?_))) (by intro q; cases q)
    cases b with
    | false => exact (ih (hno rfl) : wpAny _ X.A (handleBy (.ref a) X.env hds2) _ _ _)
    | true =>
      refine codeAny_handlers_suite_as (HandSPX.lands_againZ fl3 fun h4 fl4 up4 => ?_)
      have J4 : Inv X pins σ' H' { s' with heap := h4 } := J.landed nb fl4.1 ((up.trans up3).trans up4) os ag
      obtain ⟨oe4, vs4, he4, hz4, hd4⟩ := fl4.there
      refine store_ok (X := X.suite a ((a, oe4) :: (X.pn ++ pins))) (v := .ref a) (J4.suite he4 hd4 na nL nF) hN hi (.inl hln) rfl (fun s5 S5 => ?_) (.inr hln)
      refine wpAny_mono ((hsu a oe4 cls d (X.pn ++ pins) hz4 ⟨_, hd4⟩).run [] s5 _ H' _ S5 (hyes rfl a na)) (fun f s6 hsp => ?_) fun _ _ z => False.elim z
      have hgone : ∀ {σ6 : L2.St} {H6 : Hp} {Q : Shared → Prop}, Inv (X.suite a ((a, oe4) :: (X.pn ++ pins))) [] σ6 H6 s6 → (∀ s7, Inv X pins (σ6.set i none) H6 s7 → Q s7) →
          wpAny (model X.prog X.w) X.A (do bindName X.env n .none; unbindBehindTheSuite X.env n p') (fun _ s7 => Q s7) X.xe s6 := fun {σ6 H6 Q} S6 hq => gone_ok (S6.unsuite ok) hN hi hln hq
      cases f with
      | ret u => let ⟨v6, σ6, H6, S6, r6, q6⟩ := hsp; exact hgone S6 fun s7 J7 => ⟨v6, _, H6, J7, r6, q6⟩
      | next => let ⟨σ6, H6, S6, q6⟩ := hsp; exact hgone S6 fun s7 J7 => ⟨_, H6, J7, q6⟩
      | brk => let ⟨σ6, H6, S6, q6⟩ := hsp; exact hgone S6 fun s7 J7 => ⟨_, H6, J7, q6⟩
      | cont => let ⟨σ6, H6, S6, q6⟩ := hsp; exact hgone S6 fun s7 J7 => ⟨_, H6, J7, q6⟩
theorem ps_try_mix {body : List Stmt} {h₀ : ExceptHandler} {hds : List ExceptHandler} {l : List Clause} {pos : Pos} {tb : WX → TS} (hs : X.stack = X.env :: X.outer) (hf : X.env.frame = some X.env.locals) (tk : L2N.Takes X Wout)
    (hb : ∀ (W : WX) (pn : List (Addr × Obj)) (xe : Value → Shared → Prop), L2N.Takes (X.tr pn xe) W → PassesOwn (model X.prog X.w) X.A X.env xe → PSs (X.tr pn xe) body (tb W)) (hh : HMix X (h₀ :: hds) l) :
    PS X (.Try body (h₀ :: hds) [] [] pos) (fun D σ H => tb (wMix X.K Wout D l) D σ H) := by
  refine ⟨fun pins s σ H D I h => wpAny_Try_except ?_⟩
  have ok := I.ok
  refine wpAny_mono ((hb (wMix X.K Wout D l) (X.pn ++ pins) (fun e s₁ => wpAny (model X.prog X.w) X.A (noteFrame e X.env) (fun _ s₂ => wpAny (model X.prog X.w) X.A (setFlight e none)
    (fun _ s₃ => wpAny (model X.prog X.w) X.A (handleBy e X.env (h₀ :: hds)) (L2.SP X pins D) X.xe s₃) X.xe s₂) X.xe s₁) (fun u s' xx => ?_) PassesOwn.looking).run [] s σ H D (I.toTry _) h) (fun f s1 hsp => ?_) fun e s1 he => he
  · obtain ⟨a, B, sI, pins', σ', H', cls, d, rfl, J', nb, up, sky, na, os, ag, w⟩ := xx
    refine L2N.Sky.land (L := X.env.locals) L2N.Zn.steady (by rw [ok.frames, hs]) hf (by rw [← hs]; exact sky) fun h3 fl3 up3 => ?_
    exact mix_go ok hs hf tk (J'.ofTry ok) nb up up3 na os ag fl3 hh w
  · have hsp' : L2.SP X pins D f s1 := sp_map (fun _ _ S6 => S6.ofTry ok) hsp
    cases f with
    | next => exact wpAny_execs_nil hsp'
    | ret u => exact hsp'
    | brk => exact hsp'
    | cont => exact hsp'
end
end Sm
set_option Elab.async false
set_option linter.all false
set_option maxRecDepth 100000
set_option maxHeartbeats 2000000
/-! Sim 11: an own error whose __init__ calls super().__init__ with a text and stores one or two attributes. -/
namespace PySem
namespace EsX
open PySem.W PySem.Calls PyProof.Rows PySem.HandSPX

/-- where the parts of such an __init__ stand -/
structure Ps where
  a : Pos
  b : Pos
  c : Pos
  d : Pos
  e : Pos
  f : Pos
/-- self.f = f -/
def asg (f : Str) (p : Ps) : Stmt := .Assign [.Attribute (.Name "self" p.a) f p.b] (.Name f p.c) p.d
def sup (txt : Str) (j : Nat) (p q : Ps) : Stmt := .Expr (.Call (.Attribute (.Call (.Name "super" p.a) [] [] p.b) "__init__" p.c) [.Constant (.str txt) j p.d] [] p.e) p.f
def arg0 (fs : List (Str × Pos)) (p : Pos) : Arguments := { posonlyargs := [], args := { arg := "self", annotation := none, pos := p } :: fs.map fun x => { arg := x.1, annotation := none, pos := x.2 }, vararg := none, kwonlyargs := [], kw_defaults := [], kwarg := none, defaults := [] }
def scp (fs : List Str) : Scope := { kind := .function, names := (PySem.Str.ofString "self", .local) :: (fs.map fun f => (f, .local)) ++ [(PySem.Str.ofString "__class__", .free), (PySem.Str.ofString "super", .globalImplicit)], isGenerator := false, isCoroutine := false, more := [] }

section
variable {prog : Program} {w : World} {A : Around} {E : Value → Shared → Prop} {h : Heap} {g : Array GenState} {d : Drawn} {t : Nat} {os : OsState}
variable {nm q : Str} {C N : Addr} {bs bm : List Value} {hdct : Bool} {sn : List Str} {sub : List Value} {ab : Bool} {col : Option Bool} {dd : Option Addr} {k0 k1 k2 k3 k5 : Option Value}
/-- the bound ValueError.__init__ is called -/
theorem call_mw {u e t0 : Addr} {rest : List Value} {Q : Value → Shared → Prop} (hC : h.get? C = some (excClassObj nm q C N bs bm hdct sn sub ab col dd k0 k1 k2 k3 k5 "ValueError.__new__")) (he : h.get? e = some (excO C t0))
    (hu : h.get? u = some (kxs_mw "ValueError.__init__" e)) (hz : rest.length ≤ sizeLine)
    (hq : ∀ h' t1, (∀ b o, b ≠ e → h.get? b = some o → h'.get? b = some o) → h'.get? e = some (excO C t1) → Q .none ⟨h', g, d, t, os⟩) : wpAny (model prog w) A (call (.ref u) rest) Q E ⟨h, g, d, t, os⟩ := by
  refine wpAny_call (codeAny_of_tree (show wpAny _ A.in1 (callAny (.ref u) ⟨rest, []⟩) _ _ _ from ?_))
  simp only [callAny]
  refine wpAny_bind (wpAny_load hu ?_)
  simp only [kxs_mw, show (Value.type "method-wrapper" == Value.type "method" || Value.type "method-wrapper" == Value.type "builtin_function_or_method" || Value.type "method-wrapper" == Value.type "method-wrapper") = true by decide, if_true]
  refine KFB.if_so (by decide) (wpAny_bind (check_bound_init F.excBase_ValueError.toExcCallFacts hC he rfl (wpAny_bind (wpAny_pure (wpAny_pure ?_)))))
  refine ⟨plainId_quiet F.excBase_ValueError.init.plain _, codeAny_builtin F.excBase_ValueError.initEntry ?_⟩
  exact exc_init_tree (cls := .ref C) (t0 := t0) (dv := none) (c2 := .none) (c3 := .none) (b4 := .bool false) he hz fun h' k e' _ => hq h' _ k e'
end

/-- the super call, as the model reads it in one line of the text -/
def SupEv (txt : Str) (j : Nat) (pa : Ps) (env : Env) : Prop := ∃ pl : Sem Bool, eval (.Call (.Attribute (.Call (.Name "super" pa.a) [] [] pa.b) "__init__" pa.c) [.Constant (.str txt) j pa.d] [] pa.e) env = (do
  let ov ← attributeBase (.Call (.Name "super" pa.a) [] [] pa.b) "__init__" env (eval (.Call (.Name "super" pa.a) [] [] pa.b) env)
  standAt pa.c.atName
  let (f, first) ← holding [ov] (getMethod ov "__init__" pl)
  callWith pa.e f first (backTo pa.e (starEach [.Constant (.str txt) j pa.d] env)) [])
/-- what the written part says of the error's class at C, its attributes fs -/
structure EsT (P : Program) (K : Frag) (mg : Str → Option Value) (C : Addr) (fs : List Str) : Prop where
  cls : ∃ nm q N bs bm sn sub ab col dd k0 k1 k2 k3 k5, K.lookup C = some (excClassObj nm q C N bs bm true sn sub ab col dd k0 k1 k2 k3 k5 "ValueError.__new__") ∧ refsVE bm = true ∧ alongIn K "__init__" bm = some (some (.builtin "ValueError.__init__"))
  sa : findIn K (.ref C) "__setattr__" = some (some (.builtin "object.__setattr__"))
  mVE : mroIn K C (.type "ValueError") = some true
  mC : mroIn K C (.ref C) = some true
  noN : ∀ f ∈ fs, findIn K (.ref C) f = some none
  op : nsIn K cStatics "thirdparty.any" = some none
  sup : mg "super" = none
  file : (P.main.scope.names.lookup ("super" : Str)).isSome = false
  fn : ∃ (fI cc cda : Addr) (oc ccl cl doc pm ct : Value) (od an cdd cld : Option Addr) (osl ccs csl : Array (Option Value)) (qual : Str) (txt : Str) (j : Nat) (ps : List Pos) (p0 : Pos) (pa pb : Ps) (pq : List Ps) (vs : Array Value) (fl : Str) (tf : Tok),
    findIn K (.ref C) "__init__" = some (some (.ref fI)) ∧ typeIn K (.ref fI) = some (.type "function") ∧ ps.length = fs.length ∧ pq.length = fs.length ∧
    K.lookup fI = some ⟨oc, od, .func (ksFn "__init__" qual (arg0 (fs.zip ps) p0) (EsX.sup txt j pa pb :: (fs.zip pq).map fun x => asg x.1 x.2) (scp fs) .none .none doc pm an (.ref cda) ct cc), osl⟩ ∧ codeIn K (.ref cda) qual = true ∧
    K.lookup cda = some ⟨ccl, cdd, .fields vs, ccs⟩ ∧ vs[2]? = some (.str fl tf) ∧ ((P.main.file : Str) == fl) = true ∧ K.lookup cc = some ⟨cl, cld, .cell (some (.ref C)), csl⟩ ∧ ∀ L, SupEv txt j pa (ksEnv qual (scp fs) L fI (.ref cda) cc)

section
variable {prog : Program} {w : World} {A : Around} {R : Result → Shared → Prop} {s : Shared} {K : Frag} {mg : Str → Option Value} {C : Addr} {base : Heap}
theorem ns_kept {h h' : Heap} {L x : Addr} {m : Str → Option Value} (hn : h.Ns L m) (k : ∀ b o, b ≠ x → h.get? b = some o → h'.get? b = some o) (ne : L ≠ x) : h'.Ns L m := by
  obtain ⟨oL, es, ep, hL, r⟩ := hn
  exact ⟨oL, es, ep, k _ _ ne hL, r⟩
/-- super().__init__(text) runs -/
theorem run_sup {fI cc cda x t0 L : Addr} {oc ccl cl doc pm ct : Value} {od an cdd cld : Option Addr} {osl ccs csl : Array (Option Value)} {qual txt : Str} {j : Nat} {pa pb : Ps} {vs : Array Value} {fl : Str} {tf : Tok} {fs : List Str} {ps : List Pos} {p0 : Pos} {body body2 : List Stmt}
    {m : Str → Option Value} {E : Value → Shared → Prop} {Q : Flow → Shared → Prop} (T : EsT prog K mg C fs) (M : L2.Mod K mg base) (hb : ∀ b o, base.get? b = some o → s.heap.get? b = some o)
    (hf : K.lookup fI = some ⟨oc, od, .func (ksFn "__init__" qual (arg0 (fs.zip ps) p0) body (scp fs) .none .none doc pm an (.ref cda) ct cc), osl⟩) (hcode : K.lookup cda = some ⟨ccl, cdd, .fields vs, ccs⟩) (hvs : vs[2]? = some (.str fl tf))
    (hfile : ((prog.main.file : Str) == fl) = true) (hcell : K.lookup cc = some ⟨cl, cld, .cell (some (.ref C)), csl⟩) (hn : s.heap.Ns L m) (hself : m "self" = some (.ref x)) (hx : s.heap.get? x = some (excO C t0)) (hnx : x ≠ L)
    (hev : SupEv txt j pa (ksEnv qual (scp fs) L fI (.ref cda) cc)) (hks : (scp fs).names.lookup ("super" : Str) = some .globalImplicit) (hkc : (scp fs).names.lookup ("__class__" : Str) = some .free)
    (hq : ∀ h' t1 tk, (∀ b o, b ≠ x → s.heap.get? b = some o → h'.get? b = some o) → h'.get? x = some (excO C t1) → Q .next { s with heap := h', toks := tk }) :
    wpAt (model prog w) A (.func body2 (ksEnv qual (scp fs) L fI (.ref cda) cc)) (exec (EsX.sup txt j pa pb) (ksEnv qual (scp fs) L fI (.ref cda) cc)) Q E s := by
  have X : K.In s.heap := M.kin.keeps hb
  obtain ⟨nm, q, N, bs, bm, sn, sub, ab, col, dd, k0, k1, k2, k3, k5, hC, hbm, hal⟩ := T.cls
  obtain ⟨mb, hmb, hbl⟩ := M.blt
  obtain ⟨hh, g, d, t, os⟩ := s
  have hcl : clsIn K C = some { name := nm, bases := bs, mro := .ref C :: bm, ns := N, qualname := q, hasDict := true, slotNames := sn, subclasses := sub, abstract := ab, collection := col, hasDel := false } := by unfold clsIn; rw [hC] <;> rfl
  unfold EsX.sup
  obtain ⟨pl, he⟩ := hev
  refine ks_wpAt_Expr_any (ks_wpAt_MethodCall (pl := pl) ?_ he)
  refine ks_wpAt_super_base (env := ksEnv qual (scp fs) L fI (.ref cda) cc) hks hkc (by decide) rfl (X _ _ hf) rfl (ar := { arg := "self", annotation := none, pos := p0 }) rfl rfl (X _ _ hcode) rfl hvs hfile T.file ?_
  refine ks_loadName_global rfl hks (loadGlobal_builtin (env := ksEnv qual (scp fs) L fI (.ref cda) cc) (M.glob.keeps hb) T.sup (hmb.keeps hb) ((hbl _ (by decide +kernel)).trans (by decide +kernel)) ⟨rfl, ?_⟩)
  refine wpAny_loadName_free rfl hkc rfl ⟨_, X _ _ hcell, rfl⟩ ?_
  refine wpAny_loadName_local rfl rfl hn hself ?_
  refine ks_wpAny_isType_cls (X _ _ hC) rfl ⟨rfl, ?_⟩
  have I : ∀ {h2 : Heap}, h2.get? x = some (excO C t0) → InstAt h2 x (excO C t0) C none := fun e => ⟨e, rfl, rfl, trivial⟩
  refine ks_wpAny_call_super (X _ _ hC) rfl hx rfl (fun c e => by cases e) (looks_mroIn X T.mC) (fun h1 e1 k1' => ?_)
  have X1 : K.In h1 := X.keeps k1'
  have LT : Looks (model prog w) h1 (isInstance (.ref x) (.type "ValueError")) true := (I (k1' _ _ hx)).type.andThen (looks_mroIn X1 T.mVE)
  refine kxs_getMethod kxs_ValueError e1 (looks_opaque X1 T.op) (l₀ := .ref C :: bm) ?_ (by simp [List.dropWhile_cons] : (((Value.ref C :: bm).dropWhile (· != .ref C)).drop 1) = bm) X1 hal LT (fun z => ?_) (by decide) ?_
  · exact fun A Q E s k q => wpAny_bind ((looks_clsIn X1 hcl) A _ E s k (wpAny_pure q))
  · rw [z, X _ _ hC] at hx; cases hx
  · refine kxs_callWith (i := "ValueError.__init__") (x := x) rfl (evalArgs_plain ?_)
    show wpAny _ _ (spliced (backTo pa.e (starEach [.Constant (.str txt) j pa.d] _))) _ _ _
    refine Calls.spliced_cons (show wpAny _ _ (eval (.Constant (.str txt) j pa.d) _) _ _ _ from Calls.Constant_str (Calls.spliced_nil ?_))
    have keep : ∀ b o, hh.get? b = some o → (h1.push (kxs_mw "ValueError.__init__" x)).get? b = some o := fun b o e => Heap.get?_push_of_some _ (k1' b o e)
    refine ⟨Heap.get?_push_at rfl rfl, call_mw (t0 := t0) (keep _ _ (X _ _ hC)) (keep _ _ hx) (Heap.get?_push_at rfl rfl) (by rw [sizeLine_eq]; exact (by decide : 1 ≤ 16777216)) fun h' t1 k' e' => ?_⟩
    exact hq h' t1 _ (fun b o nb e => k' b o nb (keep b o e)) e'
/-- what an error's __init__ leaves: its dict at dx holds vs under the names fs -/
structure End (h h' : Heap) (x C dx : Addr) (m : Str → Option Value) : Prop where
  keep : ∀ b o, b ≠ x → h.get? b = some o → h'.get? b = some o
  obj : ∃ t1, h'.get? x = some { cls := .ref C, dict := some dx, data := .fields #[.ref t1, .none, .none, .none, .bool false, .none] }
  dbig : h.objs.size ≤ dx
  dne : dx ≠ x
  ns : h'.Ns1 dx m
theorem init1 {f1 : Str} {x t0 fI : Addr} {v : Value} (T : EsT prog K mg C [f1]) (M : L2.Mod K mg base) (hb : ∀ b o, base.get? b = some o → s.heap.get? b = some o) (hlim : s.heap.NoLimit) (hi : findIn K (.ref C) "__init__" = some (some (.ref fI))) (hx : s.heap.get? x = some (excO C t0)) (hnx : K.lookup x = none) (hroom : A.depth < recursionLimit)
    (hf1 : (f1 == ("__debug__" : Str)) = false) (hfs : (("self" : Str) == f1) = false) (hl1 : (scp [f1]).names.lookup f1 = some .local) (hks : (scp [f1]).names.lookup ("super" : Str) = some .globalImplicit) (hkc : (scp [f1]).names.lookup ("__class__" : Str) = some .free)
    (hsw : ∀ (p : Ps) (L : Addr) (q : Str) (a : Addr) (cd : Value) (cc : Addr), swapsWith (.Name f1 p.c) (some (.Attribute (.Name "self" p.a) f1 p.b)) p.d.line (ksEnv q (scp [f1]) L a cd cc) = pure false)
    (hbd : ∀ (qual : Str) (txt : Str) (j : Nat) (pp p0 : Pos) (pa pb p1 : Ps) (doc pm ct cd : Value) (an : Option Addr) (cc : Addr), bindArgs (ksFn "__init__" qual (arg0 [(f1, pp)] p0) [EsX.sup txt j pa pb, asg f1 p1] (scp [f1]) .none .none doc pm an cd ct cc) ⟨[.ref x, v], []⟩ = pure [(("self" : Str), Value.ref x), (f1, v)])
    (hq : ∀ h' tk dx, End s.heap h' x C dx (fun y => if y = f1 then some v else none) → R (.ok (.ret .none)) { s with heap := h', toks := tk }) :
    codeAny (model prog w) A (.call (.ref fI) ⟨[.ref x, v], []⟩) R s := by
  obtain ⟨fI', cc, cda, oc, ccl, cl, doc, pm, ct, od, an, cdd, cld, osl, ccs, csl, qual, txt, j, ps, p0, pa, pb, pq, vs, fl, tf, h1, h2, h3, h4, hf, hcd, hcode, hvs, hfile, hcell, hev⟩ := T.fn
  have e : fI' = fI := by rw [hi] at h1; cases h1; rfl
  subst e
  have X : K.In s.heap := M.kin.keeps hb
  obtain ⟨nm, q, N, bs, bm, sn, sub, ab, col, dd, k0, k1, k2, k3, k5, hC, hbm, hal⟩ := T.cls
  have hcl : clsIn K C = some { name := nm, bases := bs, mro := .ref C :: bm, ns := N, qualname := q, hasDict := true, slotNames := sn, subclasses := sub, abstract := ab, collection := col, hasDel := false } := by unfold clsIn; rw [hC] <;> rfl
  match ps, h3, pq, h4 with
  | [pp], _, [p1], _ =>
    have hf' : K.lookup fI' = some ⟨oc, od, .func (ksFn "__init__" qual (arg0 [(f1, pp)] p0) [EsX.sup txt j pa pb, asg f1 p1] (scp [f1]) .none .none doc pm an (.ref cda) ct cc), osl⟩ := hf
    refine ks_codeAny_call_defAt (fd := ksFn "__init__" qual (arg0 [(f1, pp)] p0) [EsX.sup txt j pa pb, asg f1 p1] (scp [f1]) .none .none doc pm an (.ref cda) ct cc) (binds := [(("self" : Str), Value.ref x), (f1, v)]) hroom (X _ _ hf') rfl hlim (codeRec_of X hcd) rfl (.of_eq (hbd qual txt j pp p0 pa pb p1 doc pm ct (.ref cda) an cc)) ?_ ?_ (fun h₁ hns hk₁ => ?_)
    · intro y hy
      simp [scp] at hy
      rcases hy with rfl | rfl | rfl | rfl <;> (intro z; cases z)
    · intro y hy
      simp at hy
      rcases hy with rfl | rfl
      · rfl
      · exact hl1
    · have xL : x ≠ s.heap.objs.size := Nat.ne_of_lt (Heap.lt_size hx)
      have hS : (List.reverse [(("self" : Str), Value.ref x), (f1, v)]).lookup ("self" : Str) = some (Value.ref x) := by
        show (match (("self" : Str) == f1) with | true => some v | false => List.lookup ("self" : Str) [(("self" : Str), Value.ref x)]) = _
        rw [hfs]
        simp [List.lookup]
      have hF : (List.reverse [(("self" : Str), Value.ref x), (f1, v)]).lookup f1 = some v := by simp [List.lookup]
      refine ks_wpAt_execs_cons (run_sup (s := { s with heap := h₁, toks := s.toks + 2 }) T M (fun b o e => hk₁ b o (hb b o e)) (ps := [pp]) hf' hcode hvs hfile hcell hns hS (hk₁ _ _ hx) xL (hev _) hks hkc fun h2 t1 tk k2 e2 => ?_)
      have hns2 : h2.Ns s.heap.objs.size (fun y => (List.reverse [(("self" : Str), Value.ref x), (f1, v)]).lookup y) := ns_kept hns k2 (Ne.symm xL)
      have X2 : K.In h2 := fun b o e => k2 b o (fun z => by rw [z, hnx] at e; cases e) (hk₁ b o (X b o e))
      refine ks_wpAt_execs_cons (wpAt_of_wpAny (plainObj_wpAny_Assign_Attribute ?_ (hsw p1 _ qual fI' (.ref cda) cc)))
      refine wpAny_Name (wpAny_loadName_local rfl hl1 hns2 hF ?_) hf1
      refine wpAny_Name (wpAny_loadName_local rfl rfl hns2 hS ?_) (by decide)
      refine set_plain X2 (ox := excO C t1) (od := none) ⟨e2, rfl, rfl, trivial⟩ T.sa ?_
      refine exc_osa X2 e2 hcl hbm rfl (T.noN f1 (by simp)) (fun h3 tk3 dx k3 dn dne e3 n3 => ?_)
      refine wpAt_of_wpAny (wpAny_execs_nil (hq h3 tk3 dx ⟨fun b o nb e => k3 b o nb (k2 b o nb (hk₁ b o e)), ⟨t1, e3⟩, ?_, dne, n3⟩))
      exact Nat.le_of_lt (Nat.lt_of_lt_of_le hns2.lt dn)
theorem init2 {f1 f2 : Str} {x t0 fI : Addr} {v v2 : Value} (T : EsT prog K mg C [f1, f2]) (M : L2.Mod K mg base) (hb : ∀ b o, base.get? b = some o → s.heap.get? b = some o) (hlim : s.heap.NoLimit) (hi : findIn K (.ref C) "__init__" = some (some (.ref fI))) (hx : s.heap.get? x = some (excO C t0)) (hnx : K.lookup x = none) (hroom : A.depth < recursionLimit)
    (hf1 : (f1 == ("__debug__" : Str)) = false) (hf2 : (f2 == ("__debug__" : Str)) = false) (hfs : (("self" : Str) == f1) = false) (hfs2 : (("self" : Str) == f2) = false) (h12 : (f1 == f2) = false) (hl1 : (scp [f1, f2]).names.lookup f1 = some .local) (hl2 : (scp [f1, f2]).names.lookup f2 = some .local)
    (hks : (scp [f1, f2]).names.lookup ("super" : Str) = some .globalImplicit) (hkc : (scp [f1, f2]).names.lookup ("__class__" : Str) = some .free)
    (hsw : ∀ (f : Str) (p : Ps) (L : Addr) (q : Str) (a : Addr) (cd : Value) (cc : Addr), f = f1 ∨ f = f2 → swapsWith (.Name f p.c) (some (.Attribute (.Name "self" p.a) f p.b)) p.d.line (ksEnv q (scp [f1, f2]) L a cd cc) = pure false)
    (hbd : ∀ (qual : Str) (txt : Str) (j : Nat) (pp pp2 p0 : Pos) (pa pb p1 p2 : Ps) (doc pm ct cd : Value) (an : Option Addr) (cc : Addr), bindArgs (ksFn "__init__" qual (arg0 [(f1, pp), (f2, pp2)] p0) [EsX.sup txt j pa pb, asg f1 p1, asg f2 p2] (scp [f1, f2]) .none .none doc pm an cd ct cc) ⟨[.ref x, v, v2], []⟩ = pure [(("self" : Str), Value.ref x), (f1, v), (f2, v2)])
    (hq : ∀ h' tk dx, End s.heap h' x C dx (fun y => if y = f2 then some v2 else if y = f1 then some v else none) → R (.ok (.ret .none)) { s with heap := h', toks := tk }) :
    codeAny (model prog w) A (.call (.ref fI) ⟨[.ref x, v, v2], []⟩) R s := by
  obtain ⟨fI', cc, cda, oc, ccl, cl, doc, pm, ct, od, an, cdd, cld, osl, ccs, csl, qual, txt, j, ps, p0, pa, pb, pq, vs, fl, tf, h1, h2, h3, h4, hf, hcd, hcode, hvs, hfile, hcell, hev⟩ := T.fn
  have e : fI' = fI := by rw [hi] at h1; cases h1; rfl
  subst e
  have X : K.In s.heap := M.kin.keeps hb
  obtain ⟨nm, q, N, bs, bm, sn, sub, ab, col, dd, k0, k1, k2, k3, k5, hC, hbm, hal⟩ := T.cls
  have hcl : clsIn K C = some { name := nm, bases := bs, mro := .ref C :: bm, ns := N, qualname := q, hasDict := true, slotNames := sn, subclasses := sub, abstract := ab, collection := col, hasDel := false } := by unfold clsIn; rw [hC] <;> rfl
  match ps, h3, pq, h4 with
  | [pp, pp2], _, [p1, p2], _ =>
    have hf' : K.lookup fI' = some ⟨oc, od, .func (ksFn "__init__" qual (arg0 [(f1, pp), (f2, pp2)] p0) [EsX.sup txt j pa pb, asg f1 p1, asg f2 p2] (scp [f1, f2]) .none .none doc pm an (.ref cda) ct cc), osl⟩ := hf
    refine ks_codeAny_call_defAt (fd := ksFn "__init__" qual (arg0 [(f1, pp), (f2, pp2)] p0) [EsX.sup txt j pa pb, asg f1 p1, asg f2 p2] (scp [f1, f2]) .none .none doc pm an (.ref cda) ct cc) (binds := [(("self" : Str), Value.ref x), (f1, v), (f2, v2)]) hroom (X _ _ hf') rfl hlim (codeRec_of X hcd) rfl (.of_eq (hbd qual txt j pp pp2 p0 pa pb p1 p2 doc pm ct (.ref cda) an cc)) ?_ ?_ (fun h₁ hns hk₁ => ?_)
    · intro y hy
      simp [scp] at hy
      rcases hy with rfl | rfl | rfl | rfl | rfl <;> (intro z; cases z)
    · intro y hy
      simp at hy
      rcases hy with rfl | rfl | rfl
      · rfl
      · exact hl1
      · exact hl2
    · have xL : x ≠ s.heap.objs.size := Nat.ne_of_lt (Heap.lt_size hx)
      have hS : (List.reverse [(("self" : Str), Value.ref x), (f1, v), (f2, v2)]).lookup ("self" : Str) = some (Value.ref x) := by
        show (match (("self" : Str) == f2) with | true => some v2 | false => match (("self" : Str) == f1) with | true => some v | false => List.lookup ("self" : Str) [(("self" : Str), Value.ref x)]) = _
        rw [hfs2, hfs]
        simp [List.lookup]
      have hF : (List.reverse [(("self" : Str), Value.ref x), (f1, v), (f2, v2)]).lookup f1 = some v := by
        show (match (f1 == f2) with | true => some v2 | false => List.lookup f1 [(f1, v), (("self" : Str), Value.ref x)]) = _
        rw [h12]
        simp [List.lookup]
      have hF2 : (List.reverse [(("self" : Str), Value.ref x), (f1, v), (f2, v2)]).lookup f2 = some v2 := by simp [List.lookup]
      refine ks_wpAt_execs_cons (run_sup (s := { s with heap := h₁, toks := s.toks + 3 }) T M (fun b o e => hk₁ b o (hb b o e)) (ps := [pp, pp2]) hf' hcode hvs hfile hcell hns hS (hk₁ _ _ hx) xL (hev _) hks hkc fun h2 t1 tk k2 e2 => ?_)
      have hns2 : h2.Ns s.heap.objs.size (fun y => (List.reverse [(("self" : Str), Value.ref x), (f1, v), (f2, v2)]).lookup y) := ns_kept hns k2 (Ne.symm xL)
      have X2 : K.In h2 := fun b o e => k2 b o (fun z => by rw [z, hnx] at e; cases e) (hk₁ b o (X b o e))
      refine ks_wpAt_execs_cons (wpAt_of_wpAny (plainObj_wpAny_Assign_Attribute ?_ (hsw f1 p1 _ qual fI' (.ref cda) cc (.inl rfl))))
      refine wpAny_Name (wpAny_loadName_local rfl hl1 hns2 hF ?_) hf1
      refine wpAny_Name (wpAny_loadName_local rfl rfl hns2 hS ?_) (by decide)
      refine set_plain X2 (ox := excO C t1) (od := none) ⟨e2, rfl, rfl, trivial⟩ T.sa ?_
      refine exc_osa X2 e2 hcl hbm rfl (T.noN f1 (by simp)) (fun h3 tk3 dx k3 dn dne e3 n3 => ?_)
      have hns3 : h3.Ns s.heap.objs.size (fun y => (List.reverse [(("self" : Str), Value.ref x), (f1, v), (f2, v2)]).lookup y) := ns_kept hns2 k3 (Ne.symm xL)
      have X3 : K.In h3 := fun b o e => k3 b o (fun z => by rw [z, hnx] at e; cases e) (X2 b o e)
      refine ks_wpAt_execs_cons (wpAt_of_wpAny (plainObj_wpAny_Assign_Attribute ?_ (hsw f2 p2 _ qual fI' (.ref cda) cc (.inr rfl))))
      refine wpAny_Name (wpAny_loadName_local rfl hl2 hns3 hF2 ?_) hf2
      refine wpAny_Name (wpAny_loadName_local rfl rfl hns3 hS ?_) (by decide)
      obtain ⟨od3, es3, ep3, ho3, r3⟩ := id n3
      refine set_plain X3 (od := some od3) ⟨e3, rfl, rfl, ho3⟩ T.sa ?_
      refine OEX.osa_old (nl := [f1]) X3 e3 n3 (fun y hy => ?_) (by simp) hcl hbm rfl (T.noN f2 (by simp)) (fun h4 tk4 k4 n4 => ?_)
      · by_cases z : y = f1
        · exact List.mem_singleton.mpr z
        · exact absurd (if_neg z) hy
      · refine wpAt_of_wpAny (wpAny_execs_nil (hq h4 tk4 dx ⟨fun b o nb e => k4 b o ?_ (k3 b o nb (k2 b o nb (hk₁ b o e))), ⟨t1, k4 _ _ (Ne.symm dne) e3⟩, ?_, dne, n4⟩))
        · have z : b < h2.objs.size := Heap.lt_size (k2 b o nb (hk₁ b o e))
          exact Nat.ne_of_lt (Nat.lt_of_lt_of_le z dn)
        · exact Nat.le_of_lt (Nat.lt_of_lt_of_le hns2.lt dn)
/-- a made error -/
structure Made (h h' : Heap) (e C d : Addr) (m : Str → Option Value) : Prop where
  keep : ∀ b o, h.get? b = some o → h'.get? b = some o
  new : h.objs.size ≤ e
  obj : ∃ oe vs, h'.get? e = some oe ∧ oe.cls = .ref C ∧ oe.dict = some d ∧ oe.data = .fields vs ∧ vs[1]? = some .none ∧ vs[2]? = some .none
  dbig : h.objs.size ≤ d
  dne : d ≠ e
  ns : h'.Ns1 d m
theorem made {fs : List Str} {us : List Value} {m : Str → Option Value} (T : EsT prog K mg C fs) (M : L2.Mod K mg base) (hb : ∀ b o, base.get? b = some o → s.heap.get? b = some o) (hlim : s.heap.NoLimit) (hroom : A.depth + 1 < recursionLimit) (hz : us.length ≤ sizeLine)
    (hinit : ∀ (A' : Around) (R' : Result → Shared → Prop) (s' : Shared) (x t0 fI : Addr), A'.depth < recursionLimit → (∀ b o, base.get? b = some o → s'.heap.get? b = some o) → s'.heap.NoLimit → findIn K (.ref C) "__init__" = some (some (.ref fI)) → s'.heap.get? x = some (excO C t0) → K.lookup x = none →
      (∀ h' tk dx, End s'.heap h' x C dx m → R' (.ok (.ret .none)) { s' with heap := h', toks := tk }) → codeAny (model prog w) A' (.call (.ref fI) ⟨.ref x :: us, []⟩) R' s')
    (hq : ∀ h' tk e d, Made s.heap h' e C d m → R (.ok (.ret (.ref e))) { s with heap := h', toks := tk }) : codeAny (model prog w) A (.call (.ref C) ⟨us, []⟩) R s := by
  have X : K.In s.heap := M.kin.keeps hb
  obtain ⟨nm, q, N, bs, bm, sn, sub, ab, col, dd, k0, k1, k2, k3, k5, hC, hbm, _⟩ := T.cls
  obtain ⟨fI, cc, cda, oc, ccl, cl, doc, pm, ct, od, an, cdd, cld, osl, ccs, csl, qual, txt, j, ps, p0, pa, pb, pq, vs, fl, tf, iC, tC, _⟩ := T.fn
  obtain ⟨hp, g, dr, tk, os⟩ := s
  have k : ∀ b o, hp.get? b = some o → ((hp.push (kdv_tup us)).push (excO C hp.objs.size)).get? b = some o := fun b o e => Heap.get?_push_of_some _ (Heap.get?_push_of_some _ e)
  have hget : ((hp.push (kdv_tup us)).push (excO C hp.objs.size)).get? (hp.objs.size + 1) = some (excO C hp.objs.size) := by heap_get
  have hnx : K.lookup (hp.objs.size + 1) = none := by
    cases e : K.lookup (hp.objs.size + 1) with
    | none => rfl
    | some o =>
      have z : hp.get? (hp.objs.size + 1) = some o := X _ _ e
      exact absurd (Nat.lt_of_succ_lt (Heap.lt_size z)) (Nat.lt_irrefl _)
  refine call_own F.excBase_ValueError (fun X => refsVE_contains X bm hbm) (X _ _ hC) (looks_findIn X iC) (fun self => bind_fn X self tC) hz ?_
  refine hinit _ _ ⟨(hp.push (kdv_tup us)).push (excO C hp.objs.size), g, dr, tk, os⟩ _ _ fI ?_ (fun b o e => k b o (hb b o e)) (hlim.keeps k) iC hget hnx fun h' tk' dx en => ?_
  · show A.depth + 1 < recursionLimit
    exact hroom
  · have old : ∀ b o, hp.get? b = some o → h'.get? b = some o := fun b o e => en.keep b o (Nat.ne_of_lt (Nat.lt_succ_of_lt (Heap.lt_size e))) (k b o e)
    have z : hp.objs.size + 1 + 1 ≤ dx := by
      first
        | (simpa only [Heap.size_push] using en.dbig)
        | exact en.dbig
        | (have q := en.dbig; rw [Heap.size_push, Heap.size_push] at q; exact q)
    obtain ⟨t1, ob⟩ := en.obj
    exact ⟨rfl, hq h' tk' (hp.objs.size + 1) dx ⟨old, Nat.le_succ _, ⟨_, _, ob, rfl, rfl, rfl, rfl, rfl⟩, Nat.le_trans (Nat.le_trans (Nat.le_succ _) (Nat.le_succ _)) z, en.dne, en.ns⟩⟩
end
end EsX
end PySem
set_option Elab.async false
set_option linter.all false
set_option maxRecDepth 100000
set_option maxHeartbeats 2000000
/-! Sim 12: raise. -/
namespace Sm
open PySem PySem.Spec PyProof.Rows L2
open PySem.EsX (EsT Made)

theorem relO_if1 {v : V} {u : Value} (r : RelV v u) (f1 f : Str) : RelO (List.lookup f [(f1, v)]) (if f = f1 then some u else none) := by
  by_cases h : f = f1
  · subst h; simp [List.lookup]; exact r
  · have e : (f == f1) = false := by simpa using h
    simp [List.lookup, e, h]; trivial
theorem relO_if2 {v v2 : V} {u u2 : Value} (r : RelV v u) (r2 : RelV v2 u2) (f1 f2 f : Str) : RelO (List.lookup f [(f2, v2), (f1, v)]) (if f = f2 then some u2 else if f = f1 then some u else none) := by
  by_cases h : f = f2
  · subst h; simp [List.lookup]; exact r2
  · have e : (f == f2) = false := by simpa using h
    simp only [List.lookup, e, if_neg h]
    exact relO_if1 r f1 f
section
variable {X : Cx} {C : Addr}
/-- an error just made is what a raise wants -/
theorem mk_made {pins : List (Addr × Obj)} {σ : L2.St} {H1 : Hp} {Q : XK} {hp h' : Heap} {g : Array GenState} {dr : Drawn} {tk tk' : Nat} {os : OsState} {e d : Addr} {m : Str → Option Value} {fs : List (Str × V)} (I1 : Inv X pins σ H1 ⟨hp, g, dr, tk, os⟩) (M : Made hp h' e C d m)
    (hr : ∀ f, RelO (fs.lookup f) (m f)) (r : Raises X (.ref C)) (hQ : ∀ d, H1 d = none → Q (.ref C) (some d) (upd H1 d (.xd fs))) : L2N.MkP X pins σ Q (.ref e) ⟨h', g, dr, tk', os⟩ := by
  obtain ⟨oe, fv, hoe, hc, hd, hdat, h1, h2⟩ := M.obj
  obtain ⟨G', g1, g2⟩ := restrict h' fun b => decide (b ≠ e)
  have gk : ∀ b, b ≠ e → G'.get? b = h'.get? b := fun b hb => g1 b (decide_eq_true hb)
  have ge : G'.get? e = none := g2 e (by simp)
  have old : ∀ b o, hp.get? b = some o → G'.get? b = some o := fun b o q => (gk b (Nat.ne_of_lt (Nat.lt_of_lt_of_le (Heap.lt_size q) M.new))).trans (M.keep b o q)
  have ob : ObjOk X.prog X.w (upd H1 d (.xd fs)) G' d (.xd fs) := ⟨m, M.ns.at (fun o q => (gk d M.dne).trans q), hr⟩
  have J : Inv X pins σ (upd H1 d (.xd fs)) ⟨G', g, dr, tk', os⟩ := I1.laid (t' := tk') old M.dbig ob
  refine ⟨e, oe, fv, ⟨G', g, dr, tk', os⟩, _, .ref C, some d, rfl, J, fun b o q => ?_, ge, hoe, ⟨hc, hd, fun vs e => by rw [hdat] at e; cases e; exact h2⟩, hdat, h1, ?_, rfl, I1.bare, r, hQ d (I1.hok.fresh M.dbig)⟩
  · by_cases hb : b = e
    · have q' : G'.get? b = some o := q
      rw [hb, ge] at q'; cases q'
    · exact (gk b hb).symm.trans q
  · rw [upd_ne (Ne.symm M.dne)]
    exact I1.hok.fresh M.new
/-- C(a), C(a, b) -/
def tMk1 (C : Addr) (f1 : Str) (ta : TA) : L2.St → Hp → XK → Prop := fun σ H Q => ta σ H fun vs H1 => ∃ v, vs = [v] ∧ ∀ d, H1 d = none → Q (.ref C) (some d) (upd H1 d (.xd [(f1, v)]))
def tMk2 (C : Addr) (f1 f2 : Str) (ta : TA) : L2.St → Hp → XK → Prop := fun σ H Q => ta σ H fun vs H1 => ∃ v v2, vs = [v, v2] ∧ ∀ d, H1 d = none → Q (.ref C) (some d) (upd H1 d (.xd [(f2, v2), (f1, v)]))
/-- what is read off the text of such an __init__ -/
structure In1 (f1 : Str) : Prop where
  hf1 : (f1 == ("__debug__" : Str)) = false
  hfs : (("self" : Str) == f1) = false
  hl1 : (EsX.scp [f1]).names.lookup f1 = some .local
  hks : (EsX.scp [f1]).names.lookup ("super" : Str) = some .globalImplicit
  hkc : (EsX.scp [f1]).names.lookup ("__class__" : Str) = some .free
  hsw : ∀ (p : EsX.Ps) (L : Addr) (q : Str) (a : Addr) (cd : Value) (cc : Addr), swapsWith (.Name f1 p.c) (some (.Attribute (.Name "self" p.a) f1 p.b)) p.d.line (W.ksEnv q (EsX.scp [f1]) L a cd cc) = pure false
  hbd : ∀ (x v : Value) (qual : Str) (txt : Str) (j : Nat) (pp p0 : Pos) (pa pb p1 : EsX.Ps) (doc pm ct cd : Value) (an : Option Addr) (cc : Addr), bindArgs (W.ksFn "__init__" qual (EsX.arg0 [(f1, pp)] p0) [EsX.sup txt j pa pb, EsX.asg f1 p1] (EsX.scp [f1]) .none .none doc pm an cd ct cc) ⟨[x, v], []⟩ = pure [(("self" : Str), x), (f1, v)]
structure In2 (f1 f2 : Str) : Prop where
  hf1 : (f1 == ("__debug__" : Str)) = false
  hf2 : (f2 == ("__debug__" : Str)) = false
  hfs : (("self" : Str) == f1) = false
  hfs2 : (("self" : Str) == f2) = false
  h12 : (f1 == f2) = false
  hl1 : (EsX.scp [f1, f2]).names.lookup f1 = some .local
  hl2 : (EsX.scp [f1, f2]).names.lookup f2 = some .local
  hks : (EsX.scp [f1, f2]).names.lookup ("super" : Str) = some .globalImplicit
  hkc : (EsX.scp [f1, f2]).names.lookup ("__class__" : Str) = some .free
  hsw : ∀ (f : Str) (p : EsX.Ps) (L : Addr) (q : Str) (a : Addr) (cd : Value) (cc : Addr), f = f1 ∨ f = f2 → swapsWith (.Name f p.c) (some (.Attribute (.Name "self" p.a) f p.b)) p.d.line (W.ksEnv q (EsX.scp [f1, f2]) L a cd cc) = pure false
  hbd : ∀ (x v v2 : Value) (qual : Str) (txt : Str) (j : Nat) (pp pp2 p0 : Pos) (pa pb p1 p2 : EsX.Ps) (doc pm ct cd : Value) (an : Option Addr) (cc : Addr), bindArgs (W.ksFn "__init__" qual (EsX.arg0 [(f1, pp), (f2, pp2)] p0) [EsX.sup txt j pa pb, EsX.asg f1 p1, EsX.asg f2 p2] (EsX.scp [f1, f2]) .none .none doc pm an cd ct cc) ⟨[x, v, v2], []⟩ = pure [(("self" : Str), x), (f1, v), (f2, v2)]
theorem pmk1 {x f1 : Str} {a : Expr} {ta : TA} {p pos : Pos} {k : Nat} (T : EsT X.prog X.K X.mg C [f1]) (hi : In1 f1) (gC : X.mg x = some (.ref C)) (kC : PySem.W.keepIn X.K (.ref C) = true) (rC : Raises X (.ref C)) (hr : Room k X.A) (ha : PA X [a] ta) (hg : Gl X x := by rfl)
    (he : starEach (a :: []) X.env = (false, eval a X.env) :: starEach [] X.env := by rfl) (hpl : (backTo pos (starEach [] X.env)).any (·.1) = false := by rfl) (hdb : (x == ("__debug__" : Str)) = false := by decide) :
    L2N.PMk X (.Call (.Name x p) [a] [] pos) (tMk1 C f1 ta) := by
  intro pins s σ H Q I h
  refine wpAny_Call_Name_kw (ld_glob I hg gC ?_ hdb)
  refine PySem.W.callWith_K (h₀ := X.base) I.ok.mod.kin kC (thn (ha.run pos pins s σ H _ I h) fun us s1 ⟨vs, H1, I1, r1, v, ev, q1⟩ => ?_) he hpl
  subst ev
  refine ⟨I1.kIn, ?_⟩
  obtain ⟨u, rfl, ru⟩ := vals1 r1
  have hlim := I1.nolimit
  have hbk := I1.bk
  obtain ⟨hp, g, dr, tk, os⟩ := s1
  refine (wpAny_call (EsX.made (A := X.A) (m := fun y => if y = f1 then some u else none) T I1.ok.mod hbk hlim (by have := hr.dp; omega) (by rw [sizeLine_eq]; exact (by decide : 1 ≤ 16777216)) (fun A' R' s' x t0 fI hd hb' hl' hi' hx hnx hq => EsX.init1 T I1.ok.mod hb' hl' hi' hx hnx hd hi.hf1 hi.hfs hi.hl1 hi.hks hi.hkc hi.hsw (hi.hbd _ _) hq) fun h' tk' e d M => mk_made I1 M (relO_if1 ru f1) rC q1) : wpAny _ _ (call (.ref C) [u]) _ _ _)
theorem pmk2 {x f1 f2 : Str} {a b : Expr} {ta : TA} {p pos : Pos} {k : Nat} (T : EsT X.prog X.K X.mg C [f1, f2]) (hi : In2 f1 f2) (gC : X.mg x = some (.ref C)) (kC : PySem.W.keepIn X.K (.ref C) = true) (rC : Raises X (.ref C)) (hr : Room k X.A) (ha : PA X [a, b] ta) (hg : Gl X x := by rfl)
    (he : starEach (a :: [b]) X.env = (false, eval a X.env) :: starEach [b] X.env := by rfl) (hpl : (backTo pos (starEach [b] X.env)).any (·.1) = false := by rfl) (hdb : (x == ("__debug__" : Str)) = false := by decide) :
    L2N.PMk X (.Call (.Name x p) [a, b] [] pos) (tMk2 C f1 f2 ta) := by
  intro pins s σ H Q I h
  refine wpAny_Call_Name_kw (ld_glob I hg gC ?_ hdb)
  refine PySem.W.callWith_K (h₀ := X.base) I.ok.mod.kin kC (thn (ha.run pos pins s σ H _ I h) fun us s1 ⟨vs, H1, I1, r1, v, v2, ev, q1⟩ => ?_) he hpl
  subst ev
  refine ⟨I1.kIn, ?_⟩
  obtain ⟨u, u2, rfl, ru, ru2⟩ := vals2 r1
  have hlim := I1.nolimit
  have hbk := I1.bk
  obtain ⟨hp, g, dr, tk, os⟩ := s1
  refine (wpAny_call (EsX.made (A := X.A) (m := fun y => if y = f2 then some u2 else if y = f1 then some u else none) T I1.ok.mod hbk hlim (by have := hr.dp; omega) (by rw [sizeLine_eq]; exact (by decide : 2 ≤ 16777216)) (fun A' R' s' x t0 fI hd hb' hl' hi' hx hnx hq => EsX.init2 T I1.ok.mod hb' hl' hi' hx hnx hd hi.hf1 hi.hf2 hi.hfs hi.hfs2 hi.h12 hi.hl1 hi.hl2 hi.hks hi.hkc hi.hsw (hi.hbd _ _ _) hq) fun h' tk' e d M => mk_made I1 M (relO_if2 ru ru2 f1 f2) rC q1) : wpAny _ _ (call (.ref C) [u, u2]) _ _ _)
end
example : In1 "coins" := ⟨by decide, by decide, by rfl, by rfl, by rfl, fun _ _ _ _ _ _ => rfl, fun _ _ _ _ _ _ _ _ _ _ _ _ _ _ _ _ => rfl⟩
example : In2 "price" "coins" := ⟨by decide, by decide, by decide, by decide, by decide, by rfl, by rfl, by rfl, by rfl, fun _ _ _ _ _ _ _ h => by rcases h with rfl | rfl <;> rfl, fun _ _ _ _ _ _ _ _ _ _ _ _ _ _ _ _ _ _ _ => rfl⟩
end Sm
set_option Elab.async false
set_option linter.all false
set_option maxRecDepth 100000
set_option maxHeartbeats 2000000
/-! Sim 13: functions and their calls. -/
namespace Sm
open PySem PySem.Spec PyProof.Rows L2

def NoSlot (g : Gh) : Prop := ∀ a i, g.own a ≠ some (.slot i)
def RepY (K : PySem.W.Frag) (C : Cfg) (fresh : Bool) (g : Gh) (H : Hp) (d : D) (v : V) : Prop := if fresh = true then RepN K C g H d v else Rep K C g.G g.ρ d v
def PSp (K : PySem.W.Frag) (C : Cfg) (lv fresh : Bool) (g : Gh) (H : Hp) (Q : VK) (E : XK) : Rx D → Prop
  | .ok d S' => ∀ g' H' v, NoSlot g' → Stp (cE lv) g H g' H' → StoOk K C g' H' S' → RepY K C fresh g' H' d v → (fresh = true → ∀ p, v = .ref p → H p = none) → Q v H'
  | .err x S' => ∀ g' H' cls dx, NoSlot g' → Stp (cE lv) g H g' H' → StoOk K C g' H' S' → RepX K C g' x cls dx → E cls dx H'
  | .stuck => False
abbrev Fn := List D → Sto → Rx D
def spF (K : PySem.W.Frag) (C : Cfg) (lv fresh : Bool) (F : Fn) : Sp := fun vs H Q E => ∃ g ds S, NoSlot g ∧ StoOk K C g H S ∧ Reps K C g.G g.ρ ds vs ∧ PSp K C lv fresh g H Q E (F ds S)
/-- a def's mirror: n parameters, N names, m its body -/
def mFn (n N : Nat) (fresh : Bool) (m : Ms) : Fn := fun ds S => if ds.length = n then (match m (ds.map some ++ List.replicate (N - ds.length) none) S with
  | .ret d S' => .ok d S'
  | .next _ S' => if fresh = true then .stuck else .ok .non S'
  | .err x _ S' => .err x S'
  | _ => .stuck) else .stuck
def Gh.drop (g : Gh) : Gh := { g with own := fun a => match g.own a with
  | some (.slot _) => none
  | o => o }
def Gh.back (g g1 : Gh) : Gh := { g1 with own := fun a => match g.own a with
  | some (.slot i) => some (.slot i)
  | _ => g1.own a }
section
variable {K : PySem.W.Frag} {C : Cfg} {lv fresh : Bool} {g g' : Gh} {H H' : Hp} {S : Sto}
theorem drop_own {a : Addr} {w : Ow} (h : g.drop.own a = some w) : g.own a = some w ∧ ∀ i, w ≠ .slot i := by
  unfold Gh.drop at h
  simp only at h
  split at h
  · cases h
  · rename_i e
    exact ⟨h, fun i z => by rw [z] at h; exact e i h⟩
theorem drop_own' {a : Addr} {w : Ow} (h : g.own a = some w) (k : ∀ i, w ≠ .slot i) : g.drop.own a = some w := by
  unfold Gh.drop
  simp only
  rw [h]
  cases w <;> first | exact absurd rfl (k _) | rfl
theorem drop_no : NoSlot g.drop := fun a i h => (drop_own h).2 i rfl
theorem drop_sto (s : StoOk K C g H S) : StoOk K C g.drop H S :=
  sto_keep s s.sub rfl (Same.refl _) (fun a w h => s.fro a w (drop_own h).1) fun a w h k => ⟨drop_own' h k, rfl⟩
/-- a body's step, told to the caller -/
theorem drop_stp (hn : NoSlot g) (st : Stp (cS lv) g H g' H') : Stp (cE lv) g H g'.drop H' := by
  have cc : ∀ a w, g.own a = some w → cS lv w = cE lv w := fun a w h => by
    cases w with
    | slot i => exact absurd h (hn a i)
    | _ => rfl
  exact ⟨st.gG, fun a o h k => st.fr a o h fun w hw => by rw [cc a w hw]; exact k w hw, st.lv, fun a w h k => drop_own' (st.ow a w h (by rw [cc a w h]; exact k)) fun i z => by rw [z] at h; exact hn a i h,
    fun a w h => st.nw a w (drop_own h).1, fun a o h => (st.ng a o h).imp_right fun z => z.imp_right fun ⟨w, q, c⟩ => ⟨w, q, by rw [← cc a w q]; exact c⟩, st.ro⟩
theorem back_slot {g1 : Gh} {a : Addr} {i : Nat} (h : g.own a = some (.slot i)) : (g.back g1).own a = some (.slot i) := by
  show (match g.own a with | some (.slot i) => some (.slot i) | _ => g1.own a) = some (.slot i)
  rw [h]
theorem back_other {g1 : Gh} {a : Addr} (h : ∀ i, g.own a ≠ some (.slot i)) : (g.back g1).own a = g1.own a := by
  show (match g.own a with | some (.slot i) => some (.slot i) | _ => g1.own a) = g1.own a
  split
  · rename_i i e; exact absurd e (h i)
  · exact rfl
theorem slot_or (g : Gh) (a : Addr) : (∃ i, g.own a = some (.slot i)) ∨ ∀ i, g.own a ≠ some (.slot i) := by
  cases e : g.own a with
  | none => exact .inr fun i z => by cases z
  | some w =>
    cases w with
    | slot i => exact .inl ⟨i, rfl⟩
    | _ => exact .inr fun i z => by cases z
theorem back_stp (s : StoOk K C g H S) (st : Stp (cE lv) g.drop H g' H') : Stp (cE lv) g H (g.back g') H' where
  gG := st.gG
  fr := fun a o h k => st.fr a o h fun w hw => k w (drop_own hw).1
  lv := st.lv
  ow := fun a w h k => by
    rcases slot_or g a with ⟨i, z⟩ | z
    · rw [z] at h; cases h; exact back_slot z
    · rw [back_other z]
      exact st.ow a w (drop_own' h fun i q => by rw [q] at h; exact z i h) k
  nw := fun a w h => by
    rcases slot_or g a with ⟨i, z⟩ | z
    · rw [back_slot z] at h; cases h; exact .inl z
    · rw [back_other z] at h
      exact (st.nw a w h).imp_left fun q => (drop_own q).1
  ng := fun a o h => (st.ng a o h).imp_right fun z => z.imp_right fun ⟨w, q, c⟩ => ⟨w, (drop_own q).1, c⟩
  ro := st.ro
theorem slot_kept (s : StoOk K C g H S) (st : Stp (cE lv) g.drop H g' H') {a : Addr} {i : Nat} (z : g.own a = some (.slot i)) : g'.G a = none ∧ H' a ≠ none ∧ g'.own a = none := by
  obtain ⟨h1, h2⟩ := s.fro a _ z
  have nd : ∀ w, g.drop.own a ≠ some w := fun w q => by
    obtain ⟨q1, q2⟩ := drop_own q
    rw [z] at q1; cases q1; exact q2 i rfl
  refine ⟨?_, ?_, ?_⟩
  · cases e : g'.G a with
    | none => rfl
    | some o =>
      rcases st.ng a o e with q | q | ⟨w, q, _⟩
      · have q' : g.G a = some o := q
        rw [h1] at q'; cases q'
      · exact absurd q h2
      · exact absurd q (nd w)
  · cases e : H a with
    | none => exact absurd e h2
    | some o => rw [st.fr a o e fun w hw => absurd hw (nd w)]; exact fun z => by cases z
  · cases e : g'.own a with
    | none => rfl
    | some w =>
      rcases st.nw a w e with q | q
      · exact absurd q (nd w)
      · exact absurd q h2
theorem back_sto {S' : Sto} (s : StoOk K C g H S) (st : Stp (cE lv) g.drop H g' H') (s' : StoOk K C g' H' S') : StoOk K C (g.back g') H' S' := by
  refine sto_keep s' s'.sub rfl (Same.refl _) (fun a w h => ?_) fun a w h k => ⟨?_, rfl⟩
  · rcases slot_or g a with ⟨i, z⟩ | z
    · obtain ⟨q1, q2, _⟩ := slot_kept s st z
      exact ⟨q1, q2⟩
    · rw [back_other z] at h
      exact s'.fro a w h
  · rcases slot_or g a with ⟨i, z⟩ | z
    · rw [(slot_kept s st z).2.2] at h; cases h
    · rw [back_other z]; exact h
theorem PSp.weak {lv' : Bool} {Q : VK} {E : XK} {r : Rx D} (hl : lv' = true → lv = true) (h : PSp K C lv fresh g H Q E r) : PSp K C lv' fresh g H Q E r := by
  have up : ∀ {g' H'}, Stp (cE lv') g H g' H' → Stp (cE lv) g H g' H' := fun s => s.weak fun w q => by
    cases w with
    | slot i => cases q
    | _ => exact hl q
  cases r with
  | ok d S' => exact fun g' H' v n s so re fr => h g' H' v n (up s) so re fr
  | err x S' => exact fun g' H' cls dx n s so re => h g' H' cls dx n (up s) so re
  | stuck => exact h
end
section
variable {K : PySem.W.Frag} {J : Jd} {Γ : List Bool} {σ : L2.St} {sl : List (Option D)} {g : Gh} {H : Hp} {S : Sto}
theorem call_D {Q : VK} {r : Rx D} (rl : Rel K J.C Γ g sl S σ H) (p : PD K J Γ σ sl g H Q r) : PSp K J.C J.lv false g.drop H Q (WE J.W σ) r := by
  cases r with
  | ok d S' =>
    intro g' H' v n s so re _
    have re : Rep K J.C g'.G g'.ρ d v := by unfold RepY at re; rw [if_neg Bool.false_ne_true] at re; exact re
    exact p _ H' v (back_stp rl.sto s) (rl.step (back_stp rl.sto s) (back_sto rl.sto s so)) re
  | err x S' =>
    intro g' H' cls dx n s so re
    exact p _ H' cls dx (back_stp rl.sto s) (rl.step (back_stp rl.sto s) (back_sto rl.sto s so)) re
  | stuck => exact p
theorem call_N {Q : VK} {r : Rx D} (rl : Rel K J.C Γ g sl S σ H) (p : PN K J Γ σ sl g H Q r) : PSp K J.C J.lv true g.drop H Q (WE J.W σ) r := by
  cases r with
  | ok d S' =>
    intro g' H' v n s so re fr
    have re : RepN K J.C g' H' d v := by unfold RepY at re; rw [if_pos rfl] at re; exact re
    refine p _ H' v (back_stp rl.sto s) (rl.step (back_stp rl.sto s) (back_sto rl.sto s so)) ?_ (fr rfl)
    obtain ⟨q, rfl, h1, h2, h3⟩ := re
    refine ⟨q, rfl, ?_, h2, h3.mono rfl (Same.refl _) fun _ _ z => z⟩
    rw [back_other fun i z => (rl.sto.fro q _ z).2 (fr rfl q rfl)]; exact h1
  | err x S' =>
    intro g' H' cls dx n s so re
    exact p _ H' cls dx (back_stp rl.sto s) (rl.step (back_stp rl.sto s) (back_sto rl.sto s so)) re
  | stuck => exact p
end

/-! ### a def's promise, by its body -/
section
variable {P : Program} {w : World} {K : PySem.W.Frag} {mg : Str → Option Value} {base : Heap} {C : Cfg} {lv fresh : Bool}
theorem getD_rep (n i : Nat) : (List.replicate n false).getD i false = false := by
  simp only [List.getD_eq_getElem?_getD, List.getElem?_replicate]
  split <;> rfl
theorem start_rel {g : Gh} {H : Hp} {S : Sto} {ds : List D} {vs : List V} {N : List Str} (hca : C.cau = none) (s : StoOk K C g H S) (r : Reps K C g.G g.ρ ds vs) : Rel K C (List.replicate N.length false) g (ds.map some ++ List.replicate (N.length - ds.length) none) S (L2.start N vs) H := by
  have hl := r.length
  refine ⟨s, ?_, fun i d e _ => ?_, fun i d e q => ?_, fun c q => by rw [hca] at q; cases q⟩
  · unfold L2.start
    simp only [List.length_append, List.length_map, List.length_replicate]
    omega
  · by_cases hi : i < ds.length
    · rw [List.getElem?_append_left (by simpa using hi), List.getElem?_map] at e
      cases e1 : ds[i]? with
      | none => rw [e1] at e; cases e
      | some d1 =>
        rw [e1] at e
        cases e
        obtain ⟨v, h1, h2⟩ := r.get e1
        refine ⟨v, ?_, h2⟩
        unfold L2.start
        rw [List.getElem?_append_left (by simpa [← hl] using hi), List.getElem?_map, h1]; rfl
    · rw [List.getElem?_append_right (by simpa using hi), List.getElem?_replicate] at e
      split at e <;> cases e
  · rw [getD_rep] at q; cases q
/-- what the body's end says of the caller's wish -/
theorem end_run {B : Js} {Γ' : List Bool} {m : Ms} {g : Gh} {H : Hp} {S : Sto} {ds : List D} {n N : Nat} {Q : VK} {E : XK} (hn : NoSlot g) (hW : B.J.W = fun cls d _ H => E cls d H)
    (h : PSp K B.J.C B.J.lv B.fresh g H Q E (mFn n N B.fresh m ds S)) : ds.length = n ∧ PSt K B Γ' { nx := fun _ H' => Q .non H', rt := Q } g H (m (ds.map some ++ List.replicate (N - ds.length) none) S) := by
  unfold mFn at h
  by_cases hl : ds.length = n
  · rw [if_pos hl] at h
    refine ⟨hl, ?_⟩
    cases e : m (ds.map some ++ List.replicate (N - ds.length) none) S with
    | next sl' S' =>
      rw [e] at h
      by_cases hf : B.fresh = true
      · simp only [hf, if_true] at h
        exact False.elim h
      · have hf : B.fresh = false := by simpa using hf
        rw [hf] at h
        intro g' H' σ' st r
        exact h g'.drop H' .non drop_no (drop_stp hn st) (drop_sto r.sto) (by unfold RepY; rw [if_neg Bool.false_ne_true]; exact .non) fun z => by cases z
    | ret d S' =>
      rw [e] at h
      intro g' H' v st s re
      refine h g'.drop H' v drop_no (drop_stp hn st) (drop_sto s) ?_ fun hf p hp => ?_
      · unfold RepR at re
        unfold RepY
        by_cases hf : B.fresh = true
        · rw [if_pos hf] at re ⊢
          obtain ⟨p, rfl, ⟨i, h1⟩, h2⟩ := re
          refine ⟨p, rfl, ?_, (s.fro p _ h1).1, h2.mono rfl (Same.refl _) fun _ _ z => z⟩
          unfold Gh.drop; simp only; rw [h1]
        · rw [if_neg hf] at re ⊢
          exact re
      · unfold RepR at re
        rw [if_pos hf] at re
        obtain ⟨p', rfl, ⟨i, h1⟩, h2⟩ := re
        cases hp
        rcases st.nw p _ h1 with q | q
        · exact absurd q (hn p i)
        · exact q
    | brk sl' S' => rw [e] at h; exact False.elim h
    | cont sl' S' => rw [e] at h; exact False.elim h
    | err x sl' S' =>
      rw [e] at h
      intro g' H' σ' cls dx st r re
      rw [hW]
      exact h g'.drop H' cls dx drop_no (drop_stp hn st) (drop_sto r.sto) re
    | stuck => rw [e] at h; exact False.elim h
  · rw [if_neg hl] at h
    exact False.elim h
theorem fn_sim {x qual : Str} {st : Stmt} {f : Addr} {fd : FuncData} {N ps : List Str} {k : Nat} {m : Ms} {ΓX Γ' : List Bool} (hca : C.cau = none) (F : Fun K x qual st f fd) (Sc : FnScope N ps (defScope st))
    (hb : ∀ (cdv : Value) (A : Around) (outer : List Env) (s : Shared) (H : Hp) (E : XK), Room k (A.deeper (envOfC qual (defScope st) s.heap.objs.size f cdv)) →
      SSs (cxOf (L2N.CX P w) P w K mg base N qual (defScope st) f cdv A outer s H E) ⟨⟨C, fun cls d _ H => E cls d H, lv⟩, ΓX, [], fresh⟩ (List.replicate N.length false) Γ' (defBody st) m) :
    FnOk P w K mg base (L2N.CX P w) (k + 1) f fd ps (spF K C lv fresh (mFn ps.length N.length fresh m)) := by
  obtain ⟨oc, od, kV, doc, pm, an, cdv, ct, osl, rfl, lk, hcd⟩ := F.ex
  refine fn_of lk hcd Sc (fun vs H Q E h => ?_) fun A outer s H vs Q E hr h => ?_
  · obtain ⟨g, ds, S, hn, hs, hd, p⟩ := h
    have z := (end_run (B := ⟨⟨C, fun cls d _ H => E cls d H, lv⟩, ΓX, [], fresh⟩) (Γ' := Γ') hn rfl p).1
    rw [← hd.length]; exact z
  · obtain ⟨g, ds, S, hn, hs, hd, p⟩ := h
    refine ⟨_, hb cdv A outer s H E hr, ?_⟩
    exact tSt_iff.mpr ⟨g, _, S, start_rel hca hs hd, (end_run (B := ⟨⟨C, fun cls d _ H => E cls d H, lv⟩, ΓX, [], fresh⟩) hn rfl p).2⟩
end

/-! ### calls -/
section
variable {X : Cx} {CX : CXT} {k : Nat} {f C : Addr} {fd : FuncData} {ps : List Str} {sp : Sp} {E : L2.St → XK} {x m : Str} {p pos apos : Pos} {e o : Expr} {es : List Expr} {ta : TE} {t : TA}
theorem run_any {pins : List (Addr × Obj)} {σ : L2.St} {H : Hp} {s : Shared} {Q : VK} {args : Args} {ws : List Value} {zs : List V} (F : FnOk X.prog X.w X.K X.mg X.base CX k f fd ps sp) (hr : Room k X.A) (hx : PassesAt CX X σ (E σ))
    (I : Inv X pins σ H s) (b : BindsTo s fd args (ps.zip ws)) (r : Vals zs ws) (h : sp zs H Q (E σ)) : wpAny (model X.prog X.w) X.A (call (.ref f) args.pos args.kw) (EP X pins σ Q) X.xe s := by
  refine wpAny_call (codeAny_mono (F.run X.A X.stack s H args ws zs Q (E σ) hr I.env0 b r h) fun res s2 hq => ?_)
  match res, hq with
  | .error e2, hq => exact hx pins H s e2 s2 I hq
  | .ok (.ret _), hq => exact I.after hq
theorem binds_at {F : FnOk X.prog X.w X.K X.mg X.base CX k f fd ps sp} {s : Shared} {us : List Value} {vs : List V} {H : Hp} {Q : VK} {E0 : XK} (hb : Binds X.K fd ps []) (hk : X.K.In s.heap) (r : Vals vs us) (h : sp vs H Q E0) : BindsTo s fd ⟨us, []⟩ (ps.zip us) := by
  have q := hb s us hk (by rw [List.append_nil, ← r.length]; exact F.len _ _ _ _ h)
  rwa [List.append_nil] at q
end

def mCall (F : Fn) (ma : Mx (List D)) : Mx D := bindX ma fun ds _ S => F ds S
def clsOf (S : Sto) : D → Option Nat
  | .obj c _ => some c
  | .ref i => (S[i]?).map Ob.c
  | _ => none
/-- o.m(..): F by o's class -/
def mMeth (Fs : List (Nat × Fn)) (mo : Mx D) (ma : Mx (List D)) : Mx D := bindX mo fun o sl S => match (clsOf S o).bind fun c => Fs.lookup c with
  | some F => bindX ma (fun ds _ S' => F (o :: ds) S') sl S
  | none => .stuck
section
variable {X : Cx} {J : Jd} {Γ : List Bool} {k : Nat} {f : Addr} {fd : FuncData} {ps : List Str} {x m : Str} {p pos apos : Pos} {e o : Expr} {es : List Expr} {Fm : Fn} {ma : Mx (List D)} {mo : Mx D} {lv : Bool}
/-- what a callee may let out is taken, or there is nothing to let out -/
def Lets (X : Cx) (W : WX) : Prop := ∀ σ, PassesAt (L2N.CX X.prog X.w) X σ (WE W σ)
theorem lets {W : WX} (tk : L2N.Takes X W) : Lets X W := fun σ => L2N.passAt tk σ
theorem lets0 : Lets X (fun _ _ _ _ => False) := fun σ pins H s e s' I c => by
  obtain ⟨_, _, _, _, _, _, _, _, _, _, _, _, h⟩ := c
  exact h.elim
theorem spF_D {K : PySem.W.Frag} {σ : L2.St} {H : Hp} {Q : VK} {ds : List D} {vs : List V} {g : Gh} {sl : List (Option D)} {S : Sto} (hlv : lv = true → J.lv = true) (rl : Rel K J.C Γ g sl S σ H) (b : Reps K J.C g.G g.ρ ds vs) (q : PD K J Γ σ sl g H Q (Fm ds S)) : spF K J.C lv false Fm vs H Q (WE J.W σ) :=
  ⟨g.drop, ds, S, drop_no, drop_sto rl.sto, b, PSp.weak hlv (call_D rl q)⟩
theorem spF_N {K : PySem.W.Frag} {σ : L2.St} {H : Hp} {Q : VK} {ds : List D} {vs : List V} {g : Gh} {sl : List (Option D)} {S : Sto} (hlv : lv = true → J.lv = true) (rl : Rel K J.C Γ g sl S σ H) (b : Reps K J.C g.G g.ρ ds vs) (q : PN K J Γ σ sl g H Q (Fm ds S)) : spF K J.C lv true Fm vs H Q (WE J.W σ) :=
  ⟨g.drop, ds, S, drop_no, drop_sto rl.sto, b, PSp.weak hlv (call_N rl q)⟩
theorem call_pe {fresh : Bool} (F : FnOk X.prog X.w X.K X.mg X.base (L2N.CX X.prog X.w) k f fd ps (spF X.K J.C lv fresh Fm)) (hx : Lets X J.W) (hr : Room k X.A) (hm : X.mg x = some (.ref f)) (hk : PySem.W.keepIn X.K (.ref f) = true) (hb : Binds X.K fd ps []) {t : TA} (ha : PA X (e :: es) t)
    (hg : Gl X x := by rfl) (hdb : (x == ("__debug__" : Str)) = false := by decide) (he : starEach (e :: es) X.env = (false, eval e X.env) :: starEach es X.env := by rfl) (hpl : (backTo pos (starEach es X.env)).any (·.1) = false := by rfl) :
    PE X (.Call (.Name x p) (e :: es) [] pos) (tCallS (spF X.K J.C lv fresh Fm) (WE J.W) t) := pe_callS F hr hg hm hk hb hx ha hdb he hpl
theorem sd_call (F : FnOk X.prog X.w X.K X.mg X.base (L2N.CX X.prog X.w) k f fd ps (spF X.K J.C lv false Fm)) (hx : Lets X J.W) (hr : Room k X.A) (hm : X.mg x = some (.ref f)) (hk : PySem.W.keepIn X.K (.ref f) = true) (hb : Binds X.K fd ps []) (ha : SDs X J Γ (e :: es) ma)
    (hlv : lv = true → J.lv = true := by first | exact fun h => h | exact fun _ => rfl | exact fun h => Bool.noConfusion h) (hg : Gl X x := by rfl) (hdb : (x == ("__debug__" : Str)) = false := by decide) (he : starEach (e :: es) X.env = (false, eval e X.env) :: starEach es X.env := by rfl) (hpl : (backTo pos (starEach es X.env)).any (·.1) = false := by rfl) :
    SD X J Γ (.Call (.Name x p) (e :: es) [] pos) (mCall Fm ma) := PE.imp (call_pe F hx hr hm hk hb ha hg hdb he hpl) fun σ H Q q => by
  obtain ⟨g, sl, S, rl, p⟩ := tD_iff.mp q
  exact chDs postD rl p fun g1 H1 ds S1 vs st1 r1 b1 p1 => spF_D hlv r1 b1 p1
theorem sn_call (F : FnOk X.prog X.w X.K X.mg X.base (L2N.CX X.prog X.w) k f fd ps (spF X.K J.C lv true Fm)) (hx : Lets X J.W) (hr : Room k X.A) (hm : X.mg x = some (.ref f)) (hk : PySem.W.keepIn X.K (.ref f) = true) (hb : Binds X.K fd ps []) (ha : SDs X J Γ (e :: es) ma)
    (hlv : lv = true → J.lv = true := by first | exact fun h => h | exact fun _ => rfl | exact fun h => Bool.noConfusion h) (hg : Gl X x := by rfl) (hdb : (x == ("__debug__" : Str)) = false := by decide) (he : starEach (e :: es) X.env = (false, eval e X.env) :: starEach es X.env := by rfl) (hpl : (backTo pos (starEach es X.env)).any (·.1) = false := by rfl) :
    SN X J Γ (.Call (.Name x p) (e :: es) [] pos) (mCall Fm ma) := PE.imp (call_pe F hx hr hm hk hb ha hg hdb he hpl) fun σ H Q q => by
  obtain ⟨g, sl, S, rl, p⟩ := tNw_iff.mp q
  exact chDs postN rl p fun g1 H1 ds S1 vs st1 r1 b1 p1 => spF_N hlv r1 b1 p1
/-- a fresh list that nobody will change -/
theorem sd_of_sn {e : Expr} {m : Mx D} (h : SN X J Γ e m) : SD X J Γ e m := PE.imp h fun σ H Q q => by
  obtain ⟨g, sl, S, rl, p⟩ := tD_iff.mp q
  refine tNw_iff.mpr ⟨g, sl, S, rl, ?_⟩
  cases em : m sl S with
  | stuck => rw [em] at p; exact p
  | err x S' => rw [em] at p; exact p
  | ok d S' =>
    rw [em] at p
    intro g' H' v st r n fr
    obtain ⟨a, rfl, h1, h2, h3⟩ := n
    obtain ⟨u, hu⟩ := h3.there
    have sub : Same g'.G (g'.frz a u).G := fun b w hb => by
      show upd g'.G a u b = some w
      rw [upd_ne (fun z => by rw [z, h2] at hb; cases hb)]; exact hb
    have st2 : Stp (cE J.lv) g H (g'.frz a u) H' := ⟨st.gG.trans sub, st.fr, st.lv, st.ow, st.nw, fun b w hb => by
      by_cases z : b = a
      · exact .inr (.inl (by rw [z]; exact fr a rfl))
      · have hb' : upd g'.G a u b = some w := hb
        rw [upd_ne z] at hb'; exact st.ng b w hb', st.ro⟩
    have so : StoOk X.K J.C (g'.frz a u) H' S' := by
      refine sto_keep r.sto (fun b w hb => ?_) rfl sub (fun b w hb => ⟨?_, (r.sto.fro b w hb).2⟩) fun b w hb _ => ⟨hb, rfl⟩
      · by_cases z : b = a
        · subst z
          have hb' : upd g'.G b u b = some w := hb
          rw [upd_same] at hb'; cases hb'; exact hu
        · have hb' : upd g'.G a u b = some w := hb
          rw [upd_ne z] at hb'; exact r.sub b w hb'
      · show upd g'.G a u b = none
        rw [upd_ne (fun z => by have hb' : g'.own b = some w := hb; rw [z, h1] at hb'; cases hb')]
        exact (r.sto.fro b w hb).1
    have rl2 : Rel X.K J.C Γ (g'.frz a u) sl S' σ H' := ⟨so, r.len, fun i d e q => let ⟨v, z1, z2⟩ := r.slF i d e q; ⟨v, z1, z2.mono sub fun _ _ z => z⟩, fun i d e q =>
      let ⟨p, z1, z2, z3⟩ := r.slO i d e q; ⟨p, z1, z2, z3.mono rfl sub fun _ _ z => z⟩, cau_mono sub (fun _ _ z => z) r.cau⟩
    exact p _ H' _ st2 rl2 (cell_rep (h3.mono rfl sub fun _ _ z => z) (by show upd g'.G a u a = H' a; rw [upd_same, hu]))
/-- what a method wants of the classes -/
structure MethAt (K : PySem.W.Frag) (C : Cfg) (c : Nat) (m : Str) (f : Addr) : Prop where
  cls : Cls K (C.ca c)
  mt : Meth K (C.ca c) m f
  no : m ∉ C.fl c
theorem obj_view {K : PySem.W.Frag} {C : Cfg} {g : Gh} {H : Hp} {S : Sto} {d : D} {u : V} {c : Nat} (s : StoOk K C g H S) (hd : Rep K C g.G g.ρ d u) (e : clsOf S d = some c) : ∃ a dx fs, u = .ref a ∧ H a = some (.ins (C.ca c) dx fs) ∧ ∀ m, m ∉ C.fl c → fs.lookup m = none := by
  unfold clsOf at e
  split at e
  · rename_i c' fs
    cases e
    cases hd with
    | obj hG hr hno => exact ⟨_, _, _, rfl, s.sub _ _ hG, hno⟩
  · rename_i i
    cases hi : S[i]? with
    | none => rw [hi] at e; cases e
    | some ob =>
      rw [hi] at e
      cases e
      obtain ⟨a, dx, fs, h1, h2⟩ := s.ob i ob hi
      cases hd with
      | ref hρ => rw [h1] at hρ; cases hρ; exact ⟨a, dx, fs, rfl, h2.at_, h2.no⟩
  · cases e
end
end Sm
set_option Elab.async false
set_option linter.all false
set_option maxRecDepth 100000
set_option maxHeartbeats 2000000
/-! Sim 14: methods, keywords, classes made. -/
namespace Sm
open PySem PySem.Spec PyProof.Rows L2
section
variable {X : Cx} {W : WX} {k : Nat} {x m : Str} {p pos apos : Pos} {e o : Expr} {es : List Expr} {kws : List Keyword} {ta : TE} {t tk : TA}
/-- keyword arguments: their order, as places in the values -/
def permV (perm : List Nat) (zs : List V) : List V := perm.map fun i => zs.getD i .non
def permU (perm : List Nat) (ws : List Value) : List Value := perm.map fun i => ws.getD i .none
def permD (perm : List Nat) (ds : List D) : List D := perm.map fun i => ds.getD i .non
theorem perm_vals {perm : List Nat} {zs : List V} {ws : List Value} (r : Vals zs ws) : Vals (permV perm zs) (permU perm ws) := by
  induction perm with
  | nil => exact .nil
  | cons i perm ih =>
    refine .cons ?_ ih
    cases e : zs[i]? with
    | none =>
      have e2 : ws[i]? = none := List.getElem?_eq_none (by rw [← r.length]; exact List.getElem?_eq_none_iff.mp e)
      simp only [List.getD_eq_getElem?_getD, e, e2]; rfl
    | some v =>
      obtain ⟨u, hu, ru⟩ := r.get e
      simp only [List.getD_eq_getElem?_getD, e, hu]; exact ru
theorem perm_reps {K : PySem.W.Frag} {C : Cfg} {G : Hp} {ρ : List Addr} {perm : List Nat} {ds : List D} {zs : List V} (r : Reps K C G ρ ds zs) : Reps K C G ρ (permD perm ds) (permV perm zs) := by
  induction perm with
  | nil => exact .nil
  | cons i perm ih =>
    refine .cons ?_ ih
    cases e : ds[i]? with
    | none =>
      have e2 : zs[i]? = none := List.getElem?_eq_none (by rw [← r.length]; exact List.getElem?_eq_none_iff.mp e)
      simp only [List.getD_eq_getElem?_getD, e, e2]; exact .non
    | some v =>
      obtain ⟨u, hu, ru⟩ := r.get e
      simp only [List.getD_eq_getElem?_getD, e, hu]; exact ru
/-- n positional values, then the keywords ks, in the parameters' order by perm -/
def KB (K : PySem.W.Frag) (fd : FuncData) (ps ks : List Str) (n : Nat) (perm : List Nat) : Prop :=
  ∀ (s : Shared) (us ws : List Value), K.In s.heap → us.length = n → ws.length = ks.length → BindsTo s fd ⟨us, ks.zip ws⟩ (ps.zip (us ++ permU perm ws))
theorem Fun.kb {K : PySem.W.Frag} {x qual : Str} {st : Stmt} {f : Addr} {fd : FuncData} {ps ks : List Str} {n : Nat} {perm : List Nat} (F : Fun K x qual st f fd)
    (h : ∀ (kV doc pm : Value) (an : Option Addr) (cdv ct : Value) (us ws : List Value), us.length = n → ws.length = ks.length → bindArgs (PySem.W.fnOf x qual (defArgs st) (defBody st) (defScope st) .none kV doc pm an cdv ct) ⟨us, ks.zip ws⟩ = pure (ps.zip (us ++ permU perm ws))) : KB K fd ps ks n perm := by
  obtain ⟨oc, od, kV, doc, pm, an, cdv, ct, osl, rfl, lk, hcd⟩ := F.ex
  exact fun s us ws _ h1 h2 => .of_eq (h kV doc pm an cdv ct us ws h1 h2)
/-- what is called as o.m: whatever o's class says -/
def tMq (X : Cx) (W : WX) (m : Str) (ta : TE) (t : TA) : TE := fun σ H Q => ta σ H fun x H1 => ∃ (a C dx : Addr) (fs : List (Str × V)) (k : Nat) (f : Addr) (fd : FuncData) (ps : List Str) (sp : Sp),
  x = .ref a ∧ H1 a = some (.ins C dx fs) ∧ Cls X.K C ∧ Meth X.K C m f ∧ fs.lookup m = none ∧ FnOk X.prog X.w X.K X.mg X.base (L2N.CX X.prog X.w) k f fd ps sp ∧ Room k X.A ∧ Binds X.K fd ps [] ∧ t σ H1 fun vs H2 => sp (x :: vs) H2 Q (WE W σ)
theorem pe_mq {pl : Sem Bool} (hx : Lets X W) (he : PE X o ta) (ha : PA X (e :: es) t)
    (hst : starEach (e :: es) X.env = (false, eval e X.env) :: starEach es X.env := by rfl) (hpl : (backTo pos (starEach es X.env)).any (·.1) = false := by rfl)
    (ht : eval (.Call (.Attribute o m apos) (e :: es) [] pos) X.env = (do
      let v ← eval o X.env
      standAt apos.atName
      let (fv, fst) ← holding [v] (getMethod v m pl)
      callWith pos fv fst (backTo pos (starEach (e :: es) X.env)) (backToKw pos (keywordEach [] X.env))) := by rfl) :
    PE X (.Call (.Attribute o m apos) (e :: es) [] pos) (tMq X W m ta t) := by
  refine ⟨fun pins s σ H Q I h => PySem.W.methodCall_KW (pl := pl) (thn (he.run pins s σ H _ I h) fun u s1 hh => ?_) ht⟩
  obtain ⟨_, H1, I1, rx, a, C, dx, fs, k, f, fd, ps, sp, rfl, ea, c, hm, l, F, hr, hb, q⟩ := hh
  obtain rfl : u = Value.ref a := rx
  refine getmeth_ok I1 ea c hm l ?_
  refine PySem.W.callWith_K (first := [.ref a]) (h₀ := X.base) I.ok.mod.kin hm.kp (thn (ha.run pos pins s1 σ H1 _ I1 q) fun us s2 hh => ?_) hst hpl
  obtain ⟨vs, H2, I2, r, q2⟩ := hh
  have r2 : Vals (V.ref a :: vs) (Value.ref a :: us) := .cons rfl r
  exact ⟨I2.kIn, run_any (args := ⟨.ref a :: us, []⟩) F hr (hx σ) I2 (binds_at (F := F) hb I2.kIn r2 q2) r2 q2⟩
theorem pe_mq0 {pl : Sem Bool} (hx : Lets X W) (he : PE X o ta)
    (ht : eval (.Call (.Attribute o m apos) [] [] pos) X.env = (do
      let v ← eval o X.env
      standAt apos.atName
      let (fv, fst) ← holding [v] (getMethod v m pl)
      callWith pos fv fst (backTo pos (starEach [] X.env)) (backToKw pos (keywordEach [] X.env))) := by rfl) :
    PE X (.Call (.Attribute o m apos) [] [] pos) (tMq X W m ta tNil) := by
  refine ⟨fun pins s σ H Q I h => PySem.W.methodCall_KW (pl := pl) (thn (he.run pins s σ H _ I h) fun u s1 hh => ?_) ht⟩
  obtain ⟨_, H1, I1, rx, a, C, dx, fs, k, f, fd, ps, sp, rfl, ea, c, hm, l, F, hr, hb, q⟩ := hh
  obtain rfl : u = Value.ref a := rx
  refine getmeth_ok I1 ea c hm l ?_
  have r2 : Vals [V.ref a] [Value.ref a] := .cons rfl .nil
  exact PySem.W.callWith_K0 (first := [.ref a]) I1.kIn hm.kp (run_any (args := ⟨[.ref a], []⟩) F hr (hx σ) I1 (binds_at (F := F) hb I1.kIn r2 q) r2 q)
/-- o.m(k = .., ..): keywords only -/
def tMqK (X : Cx) (W : WX) (m : Str) (ks : List Str) (perm : List Nat) (ta : TE) (t : TA) : TE := fun σ H Q => ta σ H fun x H1 => ∃ (a C dx : Addr) (fs : List (Str × V)) (k : Nat) (f : Addr) (fd : FuncData) (ps : List Str) (sp : Sp),
  x = .ref a ∧ H1 a = some (.ins C dx fs) ∧ Cls X.K C ∧ Meth X.K C m f ∧ fs.lookup m = none ∧ FnOk X.prog X.w X.K X.mg X.base (L2N.CX X.prog X.w) k f fd ps sp ∧ Room k X.A ∧ KB X.K fd ps ks 1 perm ∧ t σ H1 fun vs H2 => vs.length = ks.length ∧ sp (x :: permV perm vs) H2 Q (WE W σ)
theorem pe_mqK {pl : Sem Bool} {ks : List Str} {perm : List Nat} (hx : Lets X W) (he : PE X o ta) (hkw : PK X kws t)
    (hall : (backToKw pos (keywordEach kws X.env)).all (·.1.isSome) = true := by rfl) (hks : (backToKw pos (keywordEach kws X.env)).filterMap (·.1) = ks := by rfl)
    (hpl : ((backTo pos (starEach [] X.env)).any (·.1) || (backToKw pos (keywordEach kws X.env)).any (·.1.isNone)) = false := by rfl)
    (ht : eval (.Call (.Attribute o m apos) [] kws pos) X.env = (do
      let v ← eval o X.env
      standAt apos.atName
      let (fv, fst) ← holding [v] (getMethod v m pl)
      callWith pos fv fst (backTo pos (starEach [] X.env)) (backToKw pos (keywordEach kws X.env))) := by rfl) :
    PE X (.Call (.Attribute o m apos) [] kws pos) (tMqK X W m ks perm ta t) := by
  refine ⟨fun pins s σ H Q I h => PySem.W.methodCall_KW (pl := pl) (thn (he.run pins s σ H _ I h) fun u s1 hh => ?_) ht⟩
  obtain ⟨_, H1, I1, rx, a, C, dx, fs, k, f, fd, ps, sp, rfl, ea, c, hm, l, F, hr, hb, q⟩ := hh
  obtain rfl : u = Value.ref a := rx
  refine getmeth_ok I1 ea c hm l ?_
  refine PySem.W.callWith_KW0 (first := [.ref a]) (h₀ := X.base) I.ok.mod.kin hm.kp hall (thn (hkw.run pos pins s1 σ H1 _ I1 q) fun ws s2 hh => ?_) hpl
  obtain ⟨zs, H2, I2, r, hz, q2⟩ := hh
  refine ⟨I2.kIn, ?_⟩
  rw [hks]
  exact run_any (args := ⟨[.ref a], ks.zip ws⟩) F hr (hx σ) I2 (hb s2 [.ref a] ws I2.kIn rfl (by rw [← r.length]; exact hz)) (.cons (show RelV (.ref a) (.ref a) from rfl) (perm_vals r)) q2
/-- f(k = .., ..) -/
def tCK (sp : Sp) (W : WX) (ks : List Str) (perm : List Nat) (t : TA) : TE := fun σ H Q => t σ H fun vs H2 => vs.length = ks.length ∧ sp (permV perm vs) H2 Q (WE W σ)
theorem pe_ck {ks ps : List Str} {perm : List Nat} {f : Addr} {fd : FuncData} {sp : Sp} (F : FnOk X.prog X.w X.K X.mg X.base (L2N.CX X.prog X.w) k f fd ps sp) (hx : Lets X W) (hr : Room k X.A) (hm : X.mg x = some (.ref f)) (hk : PySem.W.keepIn X.K (.ref f) = true) (hb : KB X.K fd ps ks 0 perm) (hkw : PK X kws t)
    (hg : Gl X x := by rfl) (hdb : (x == ("__debug__" : Str)) = false := by decide) (hall : (backToKw pos (keywordEach kws X.env)).all (·.1.isSome) = true := by rfl) (hks : (backToKw pos (keywordEach kws X.env)).filterMap (·.1) = ks := by rfl)
    (hpl : ((backTo pos (starEach [] X.env)).any (·.1) || (backToKw pos (keywordEach kws X.env)).any (·.1.isNone)) = false := by rfl) :
    PE X (.Call (.Name x p) [] kws pos) (tCK sp W ks perm t) := by
  refine ⟨fun pins s σ H Q I h => wpAny_Call_Name_kw (ld_glob I hg hm ?_ hdb)⟩
  refine PySem.W.callWith_KW0 (h₀ := X.base) I.ok.mod.kin hk hall (thn (hkw.run pos pins s σ H _ I h) fun ws s2 hh => ?_) hpl
  obtain ⟨zs, H2, I2, r, hz, q2⟩ := hh
  refine ⟨I2.kIn, ?_⟩
  rw [hks]
  exact run_any (args := ⟨[], ks.zip ws⟩) F hr (hx σ) I2 (hb s2 [] ws I2.kIn rfl (by rw [← r.length]; exact hz)) (perm_vals r) q2
/-- C(..): how the values are handed to __init__ -/
theorem run_mk {C f : Addr} {fd : FuncData} {ps : List Str} {sp : Sp} {pins : List (Addr × Obj)} {σ : L2.St} {H : Hp} {s : Shared} {Q : VK} {us ws : List Value} {kw : List (Str × Value)} {vs : List V} (M : Mk X.K C f) (F : FnOk X.prog X.w X.K X.mg X.base (L2N.CX X.prog X.w) k f fd ps sp) (hr : Room (k + 1) X.A)
    (hx : Lets X W) (I : Inv X pins σ H s) (r : Vals vs ws) (hb : ∀ (a : Addr) (s' : Shared), X.K.In s'.heap → (∃ Q E, ∃ H', sp (.ref a :: vs) H' Q E) → BindsTo s' fd ⟨.ref a :: us, kw⟩ (ps.zip (.ref a :: ws)))
    (h : ∀ x dx, H x = none → H dx = none → dx ≠ x → sp (.ref x :: vs) (upd (upd H dx (.own x)) x (.ins C dx [])) (fun v H2 => v = .non ∧ Q (.ref x) H2) (WE W σ)) :
    wpAny (model X.prog X.w) X.A (call (.ref C) us kw) (EP X pins σ Q) X.xe s := by
  have hq := h (s.heap.objs.size + 1) s.heap.objs.size (I.hok.fresh (Nat.le_succ _)) (I.hok.fresh (Nat.le_refl _)) (Nat.ne_of_lt (Nat.lt_succ_self _))
  have J := Inv.made (C := C) I
  have r2 : Vals (V.ref (s.heap.objs.size + 1) :: vs) (Value.ref (s.heap.objs.size + 1) :: ws) := .cons rfl r
  have bb := hb (s.heap.objs.size + 1) _ J.kIn ⟨_, _, _, hq⟩
  refine wpAny_call (make_map (f := f) I.kIn M.makes M.init (beq_iff_eq.mp M.fn) (codeAny_mono (F.run _ X.stack _ _ _ _ _ _ (WE W σ) (hr.make C us kw) (J.env0.make C us kw) bb r2 hq) fun res s2 hz => ?_))
  match res, hz with
  | .error e2, hz => exact hx σ pins _ _ e2 s2 J hz
  | .ok (.ret u), hz =>
    obtain ⟨v, H', J3, rv, rfl, q3⟩ := J.after hz
    exact ⟨rv, ⟨V.ref (s.heap.objs.size + 1), H', J3, rfl, q3⟩⟩
def tMkS (C : Addr) (sp : Sp) (W : WX) (t : TA) : TE := fun σ H Q => t σ H fun vs H1 => ∀ x dx, H1 x = none → H1 dx = none → dx ≠ x →
  sp (.ref x :: vs) (upd (upd H1 dx (.own x)) x (.ins C dx [])) (fun v H2 => v = .non ∧ Q (.ref x) H2) (WE W σ)
theorem pe_mk {C f : Addr} {fd : FuncData} {ps : List Str} {sp : Sp} (M : Mk X.K C f) (F : FnOk X.prog X.w X.K X.mg X.base (L2N.CX X.prog X.w) k f fd ps sp) (hx : Lets X W) (hr : Room (k + 1) X.A) (hm : X.mg x = some (.ref C)) (hb : Binds X.K fd ps []) (ha : PA X (e :: es) t)
    (hg : Gl X x := by rfl) (hdb : (x == ("__debug__" : Str)) = false := by decide) (he : starEach (e :: es) X.env = (false, eval e X.env) :: starEach es X.env := by rfl) (hpl : (backTo pos (starEach es X.env)).any (·.1) = false := by rfl) :
    PE X (.Call (.Name x p) (e :: es) [] pos) (tMkS C sp W t) := by
  refine ⟨fun pins s σ H Q I h => wpAny_Call_Name_kw (ld_glob I hg hm ?_ hdb)⟩
  refine PySem.W.callWith_K (h₀ := X.base) I.ok.mod.kin M.kp (thn (ha.run pos pins s σ H _ I h) fun us s1 hh => ?_) he hpl
  obtain ⟨vs, H1, I1, r, q⟩ := hh
  refine ⟨I1.kIn, run_mk M F hr hx I1 r (fun a s' hk hq => ?_) q⟩
  obtain ⟨Q', E', H', hq⟩ := hq
  have r2 : Vals (V.ref a :: vs) (Value.ref a :: us) := .cons rfl r
  exact binds_at (F := F) hb hk r2 hq
theorem pe_mk0 {C f : Addr} {fd : FuncData} {ps : List Str} {sp : Sp} (M : Mk X.K C f) (F : FnOk X.prog X.w X.K X.mg X.base (L2N.CX X.prog X.w) k f fd ps sp) (hx : Lets X W) (hr : Room (k + 1) X.A) (hm : X.mg x = some (.ref C)) (hb : Binds X.K fd ps [])
    (hg : Gl X x := by rfl) (hdb : (x == ("__debug__" : Str)) = false := by decide) :
    PE X (.Call (.Name x p) [] [] pos) (tMkS C sp W tNil) := by
  refine ⟨fun pins s σ H Q I h => wpAny_Call_Name_kw (ld_glob I hg hm ?_ hdb)⟩
  refine PySem.W.callWith_K0 I.kIn M.kp (run_mk (us := []) (ws := []) M F hr hx I .nil (fun a s' hk hq => ?_) h)
  obtain ⟨Q', E', H', hq⟩ := hq
  have r2 : Vals [V.ref a] [Value.ref a] := .cons rfl .nil
  exact binds_at (F := F) hb hk r2 hq
def tMkK (C : Addr) (sp : Sp) (W : WX) (ks : List Str) (perm : List Nat) (t : TA) : TE := fun σ H Q => t σ H fun vs H1 => vs.length = ks.length ∧ ∀ x dx, H1 x = none → H1 dx = none → dx ≠ x →
  sp (.ref x :: permV perm vs) (upd (upd H1 dx (.own x)) x (.ins C dx [])) (fun v H2 => v = .non ∧ Q (.ref x) H2) (WE W σ)
theorem pe_mkK {C f : Addr} {fd : FuncData} {ps ks : List Str} {perm : List Nat} {sp : Sp} (M : Mk X.K C f) (F : FnOk X.prog X.w X.K X.mg X.base (L2N.CX X.prog X.w) k f fd ps sp) (hx : Lets X W) (hr : Room (k + 1) X.A) (hm : X.mg x = some (.ref C)) (hb : KB X.K fd ps ks 1 perm) (hkw : PK X kws t)
    (hg : Gl X x := by rfl) (hdb : (x == ("__debug__" : Str)) = false := by decide) (hall : (backToKw pos (keywordEach kws X.env)).all (·.1.isSome) = true := by rfl) (hks : (backToKw pos (keywordEach kws X.env)).filterMap (·.1) = ks := by rfl)
    (hpl : ((backTo pos (starEach [] X.env)).any (·.1) || (backToKw pos (keywordEach kws X.env)).any (·.1.isNone)) = false := by rfl) :
    PE X (.Call (.Name x p) [] kws pos) (tMkK C sp W ks perm t) := by
  refine ⟨fun pins s σ H Q I h => wpAny_Call_Name_kw (ld_glob I hg hm ?_ hdb)⟩
  refine PySem.W.callWith_KW0 (h₀ := X.base) I.ok.mod.kin M.kp hall (thn (hkw.run pos pins s σ H _ I h) fun ws s2 hh => ?_) hpl
  obtain ⟨zs, H2, I2, r, hz, q2⟩ := hh
  refine ⟨I2.kIn, ?_⟩
  rw [hks]
  exact run_mk (us := []) (kw := ks.zip ws) M F hr hx I2 (perm_vals r) (fun a s' hk _ => hb s' [.ref a] ws hk rfl (by rw [← r.length]; exact hz)) q2
end
/-- keyword values -/
def SKs (X : Cx) (J : Jd) (Γ : List Bool) (ks : List Keyword) (m : Mx (List D)) : Prop := PK X ks (tDs X.K J Γ m)
theorem PK.imp {X : Cx} {e : List Keyword} {t t' : TA} (h : PK X e t) (k : ∀ σ H Q, t' σ H Q → t σ H Q) : PK X e t' := ⟨fun pos pins s σ H Q I q => h.run pos pins s σ H Q I (k σ H Q q)⟩
section
variable {X : Cx} {J : Jd} {Γ : List Bool} {k : Nat} {f : Addr} {fd : FuncData} {ps ks : List Str} {perm : List Nat} {x m : Str} {p pos apos kpos : Pos} {e o : Expr} {es : List Expr} {kws : List Keyword} {Fm : Fn} {Fs : List (Nat × Fn)} {ma : Mx (List D)} {mo me : Mx D} {lv fresh : Bool} {nm : Option Str}
theorem sks_nil : SKs X J Γ [] mNil := PK.imp pk_nil fun σ H Q q => by
  obtain ⟨g, sl, S, r, p⟩ := tDs_iff.mp q
  exact p g H [] Stp.refl r .nil
theorem sks_cons (he : SD X J Γ e me) (hr : SKs X J Γ kws ma) : SKs X J Γ (⟨nm, e, kpos⟩ :: kws) (mCons me ma) := PK.imp (pk_cons he hr) fun σ H Q q => by
  obtain ⟨g, sl, S, rl, p⟩ := tDs_iff.mp q
  refine chD postDs rl p fun g1 H1 d S1 x st1 r1 b1 p1 => ?_
  refine chDs postDs r1 p1 fun g2 H2 ds S2 xs st2 r2 b2 p2 => ?_
  exact p2 g2 H2 (x :: xs) Stp.refl r2 (.cons (b1.step st2) b2)
/-- a method's promise, told of a class -/
structure MOk (X : Cx) (J : Jd) (fresh : Bool) (m : Str) (c : Nat) (F : Fn) : Prop where
  ex : ∃ (k : Nat) (f : Addr) (fd : FuncData) (ps : List Str) (lv : Bool), MethAt X.K J.C c m f ∧ FnOk X.prog X.w X.K X.mg X.base (L2N.CX X.prog X.w) k f fd ps (spF X.K J.C lv fresh F) ∧ Room k X.A ∧ Binds X.K fd ps [] ∧ (lv = true → J.lv = true)
theorem lookup_none {m : Str} : ∀ {fs : List (Str × V)} {l : List Str}, (∀ n, n ∉ l → fs.lookup n = none) → m ∉ l → fs.lookup m = none := fun h k => h _ k
theorem mth_open {K : PySem.W.Frag} {β : Type} {P : Gh → Hp → Rx D → Prop} {σ : L2.St} {sl : List (Option D)} {g : Gh} {H : Hp} {S : Sto} {d : D} (hP : Post K J Γ σ sl P)
    (p : P g H ((match (clsOf S d).bind fun c => Fs.lookup c with | some F => bindX ma (fun ds _ S' => F (d :: ds) S') sl S | none => .stuck : Rx D))) : ∃ c F, clsOf S d = some c ∧ Fs.lookup c = some F ∧ P g H (bindX ma (fun ds _ S' => F (d :: ds) S') sl S) := by
  cases e : clsOf S d with
  | none => rw [e] at p; exact (hP.stuck _ _ p).elim
  | some c =>
    cases e2 : Fs.lookup c with
    | none => rw [e, Option.bind_some, e2] at p; exact (hP.stuck _ _ p).elim
    | some F => rw [e, Option.bind_some, e2] at p; exact ⟨c, F, rfl, e2, p⟩
theorem sd_meth {pl : Sem Bool} (hx : Lets X J.W) (ho : SD X J Γ o mo) (hM : ∀ c F, Fs.lookup c = some F → MOk X J false m c F) (ha : SDs X J Γ (e :: es) ma)
    (hst : starEach (e :: es) X.env = (false, eval e X.env) :: starEach es X.env := by rfl) (hpl : (backTo pos (starEach es X.env)).any (·.1) = false := by rfl)
    (ht : eval (.Call (.Attribute o m apos) (e :: es) [] pos) X.env = (do
      let v ← eval o X.env
      standAt apos.atName
      let (fv, fst) ← holding [v] (getMethod v m pl)
      callWith pos fv fst (backTo pos (starEach (e :: es) X.env)) (backToKw pos (keywordEach [] X.env))) := by rfl) :
    SD X J Γ (.Call (.Attribute o m apos) (e :: es) [] pos) (mMeth Fs mo ma) := PE.imp (pe_mq hx ho ha hst hpl ht) fun σ H Q q => by
  obtain ⟨g, sl, S, rl, p⟩ := tD_iff.mp q
  refine chD postD rl p fun g1 H1 d S1 x st1 r1 b1 p1 => ?_
  obtain ⟨c, F, h1, h2, p2⟩ := mth_open (β := Unit) postD p1
  obtain ⟨k, f, fd, ps, lv, hc, hF, hr, hb, hlv⟩ := (hM c F h2).ex
  obtain ⟨a, dx, fs, rfl, ea, hno⟩ := obj_view r1.sto b1 h1
  refine ⟨a, _, dx, fs, k, f, fd, ps, _, rfl, ea, hc.cls, hc.mt, hno _ hc.no, hF, hr, hb, ?_⟩
  exact chDs postD r1 p2 fun g2 H2 ds S2 vs st2 r2 b2 p3 => spF_D hlv r2 (.cons (b1.step st2) b2) p3
theorem sn_meth {pl : Sem Bool} (hx : Lets X J.W) (ho : SD X J Γ o mo) (hM : ∀ c F, Fs.lookup c = some F → MOk X J true m c F) (ha : SDs X J Γ (e :: es) ma)
    (hst : starEach (e :: es) X.env = (false, eval e X.env) :: starEach es X.env := by rfl) (hpl : (backTo pos (starEach es X.env)).any (·.1) = false := by rfl)
    (ht : eval (.Call (.Attribute o m apos) (e :: es) [] pos) X.env = (do
      let v ← eval o X.env
      standAt apos.atName
      let (fv, fst) ← holding [v] (getMethod v m pl)
      callWith pos fv fst (backTo pos (starEach (e :: es) X.env)) (backToKw pos (keywordEach [] X.env))) := by rfl) :
    SN X J Γ (.Call (.Attribute o m apos) (e :: es) [] pos) (mMeth Fs mo ma) := PE.imp (pe_mq hx ho ha hst hpl ht) fun σ H Q q => by
  obtain ⟨g, sl, S, rl, p⟩ := tNw_iff.mp q
  refine chD postN rl p fun g1 H1 d S1 x st1 r1 b1 p1 => ?_
  obtain ⟨c, F, h1, h2, p2⟩ := mth_open (β := Unit) postN p1
  obtain ⟨k, f, fd, ps, lv, hc, hF, hr, hb, hlv⟩ := (hM c F h2).ex
  obtain ⟨a, dx, fs, rfl, ea, hno⟩ := obj_view r1.sto b1 h1
  refine ⟨a, _, dx, fs, k, f, fd, ps, _, rfl, ea, hc.cls, hc.mt, hno _ hc.no, hF, hr, hb, ?_⟩
  exact chDs postN r1 p2 fun g2 H2 ds S2 vs st2 r2 b2 p3 => spF_N hlv r2 (.cons (b1.step st2) b2) p3
theorem nil_tNil {K : PySem.W.Frag} {σ : L2.St} {H : Hp} {R : List V → Hp → Prop} (h : R [] H) : tNil σ H R := h
theorem sd_meth0 {pl : Sem Bool} (hx : Lets X J.W) (ho : SD X J Γ o mo) (hM : ∀ c F, Fs.lookup c = some F → MOk X J false m c F)
    (ht : eval (.Call (.Attribute o m apos) [] [] pos) X.env = (do
      let v ← eval o X.env
      standAt apos.atName
      let (fv, fst) ← holding [v] (getMethod v m pl)
      callWith pos fv fst (backTo pos (starEach [] X.env)) (backToKw pos (keywordEach [] X.env))) := by rfl) :
    SD X J Γ (.Call (.Attribute o m apos) [] [] pos) (mMeth Fs mo mNil) := PE.imp (pe_mq0 hx ho ht) fun σ H Q q => by
  obtain ⟨g, sl, S, rl, p⟩ := tD_iff.mp q
  refine chD postD rl p fun g1 H1 d S1 x st1 r1 b1 p1 => ?_
  obtain ⟨c, F, h1, h2, p2⟩ := mth_open (β := Unit) postD p1
  obtain ⟨k, f, fd, ps, lv, hc, hF, hr, hb, hlv⟩ := (hM c F h2).ex
  obtain ⟨a, dx, fs, rfl, ea, hno⟩ := obj_view r1.sto b1 h1
  exact ⟨a, _, dx, fs, k, f, fd, ps, _, rfl, ea, hc.cls, hc.mt, hno _ hc.no, hF, hr, hb, spF_D hlv r1 (.cons b1 .nil) p2⟩
theorem sn_meth0 {pl : Sem Bool} (hx : Lets X J.W) (ho : SD X J Γ o mo) (hM : ∀ c F, Fs.lookup c = some F → MOk X J true m c F)
    (ht : eval (.Call (.Attribute o m apos) [] [] pos) X.env = (do
      let v ← eval o X.env
      standAt apos.atName
      let (fv, fst) ← holding [v] (getMethod v m pl)
      callWith pos fv fst (backTo pos (starEach [] X.env)) (backToKw pos (keywordEach [] X.env))) := by rfl) :
    SN X J Γ (.Call (.Attribute o m apos) [] [] pos) (mMeth Fs mo mNil) := PE.imp (pe_mq0 hx ho ht) fun σ H Q q => by
  obtain ⟨g, sl, S, rl, p⟩ := tNw_iff.mp q
  refine chD postN rl p fun g1 H1 d S1 x st1 r1 b1 p1 => ?_
  obtain ⟨c, F, h1, h2, p2⟩ := mth_open (β := Unit) postN p1
  obtain ⟨k, f, fd, ps, lv, hc, hF, hr, hb, hlv⟩ := (hM c F h2).ex
  obtain ⟨a, dx, fs, rfl, ea, hno⟩ := obj_view r1.sto b1 h1
  exact ⟨a, _, dx, fs, k, f, fd, ps, _, rfl, ea, hc.cls, hc.mt, hno _ hc.no, hF, hr, hb, spF_N hlv r1 (.cons b1 .nil) p2⟩
/-- keywords only: the values in the parameters' order -/
def mPerm (n : Nat) (perm : List Nat) (ma : Mx (List D)) : Mx (List D) := bindX ma fun ds _ S => if ds.length = n then .ok (permD perm ds) S else .stuck
end
end Sm
set_option Elab.async false
set_option linter.all false
set_option maxRecDepth 100000
set_option maxHeartbeats 2000000
/-! Sim 15: keyword calls, objects made, raise. -/
namespace Sm
open PySem PySem.Spec PyProof.Rows L2
section
variable {X : Cx} {J : Jd} {Γ : List Bool} {k : Nat} {f : Addr} {fd : FuncData} {ps ks : List Str} {perm : List Nat} {x m : Str} {p pos apos kpos : Pos} {e o : Expr} {es : List Expr} {kws : List Keyword} {Fm : Fn} {Fs : List (Nat × Fn)} {ma : Mx (List D)} {mo me : Mx D} {lv fresh : Bool} {nm : Option Str}
theorem perm_post {K : PySem.W.Frag} {β : Type} {P : Gh → Hp → Rx β → Prop} {σ : L2.St} {sl : List (Option D)} {g : Gh} {H : Hp} {S : Sto} {n : Nat} {F : List D → Mx β} {R : List V → Hp → Prop} (hP : Post K J Γ σ sl P) (r : Rel K J.C Γ g sl S σ H) (h : P g H (bindX (mPerm n perm ma) F sl S))
    (k : ∀ g1 H1 d S1 x, Stp (cE J.lv) g H g1 H1 → Rel K J.C Γ g1 sl S1 σ H1 → Reps K J.C g1.G g1.ρ d x → d.length = n → P g1 H1 (F (permD perm d) sl S1) → R x H1) : tDs K J Γ ma σ H R := by
  have h2 : P g H (bindX ma (fun ds sl S => if ds.length = n then F (permD perm ds) sl S else .stuck) sl S) := by
    unfold mPerm bindX at h
    unfold bindX
    cases e : ma sl S with
    | ok d S' =>
      rw [e] at h
      by_cases hl : d.length = n
      · simp only [hl, if_true] at h ⊢; exact h
      · simp only [hl, if_false] at h ⊢; exact h
    | err x S' => rw [e] at h; exact h
    | stuck => rw [e] at h; exact h
  refine chDs hP r h2 fun g1 H1 ds S1 vs st1 r1 b1 p1 => ?_
  by_cases hl : ds.length = n
  · rw [if_pos hl] at p1; exact k g1 H1 ds S1 vs st1 r1 b1 hl p1
  · rw [if_neg hl] at p1; exact (hP.stuck _ _ p1).elim
structure MOkK (X : Cx) (J : Jd) (fresh : Bool) (m : Str) (ks : List Str) (perm : List Nat) (c : Nat) (F : Fn) : Prop where
  ex : ∃ (k : Nat) (f : Addr) (fd : FuncData) (ps : List Str) (lv : Bool), MethAt X.K J.C c m f ∧ FnOk X.prog X.w X.K X.mg X.base (L2N.CX X.prog X.w) k f fd ps (spF X.K J.C lv fresh F) ∧ Room k X.A ∧ KB X.K fd ps ks 1 perm ∧ (lv = true → J.lv = true)
theorem sd_methK {pl : Sem Bool} (ks : List Str) (perm : List Nat) (hx : Lets X J.W) (ho : SD X J Γ o mo) (hM : ∀ c F, Fs.lookup c = some F → MOkK X J false m ks perm c F) (hkw : SKs X J Γ kws ma)
    (hall : (backToKw pos (keywordEach kws X.env)).all (·.1.isSome) = true := by rfl) (hks : (backToKw pos (keywordEach kws X.env)).filterMap (·.1) = ks := by rfl)
    (hpl : ((backTo pos (starEach [] X.env)).any (·.1) || (backToKw pos (keywordEach kws X.env)).any (·.1.isNone)) = false := by rfl)
    (ht : eval (.Call (.Attribute o m apos) [] kws pos) X.env = (do
      let v ← eval o X.env
      standAt apos.atName
      let (fv, fst) ← holding [v] (getMethod v m pl)
      callWith pos fv fst (backTo pos (starEach [] X.env)) (backToKw pos (keywordEach kws X.env))) := by rfl) :
    SD X J Γ (.Call (.Attribute o m apos) [] kws pos) (mMeth Fs mo (mPerm ks.length perm ma)) := PE.imp (pe_mqK hx ho hkw hall hks hpl ht) fun σ H Q q => by
  obtain ⟨g, sl, S, rl, p⟩ := tD_iff.mp q
  refine chD postD rl p fun g1 H1 d S1 x st1 r1 b1 p1 => ?_
  obtain ⟨c, F, h1, h2, p2⟩ := mth_open (β := Unit) postD p1
  obtain ⟨k, f, fd, ps, lv, hc, hF, hr, hb, hlv⟩ := (hM c F h2).ex
  obtain ⟨a, dx, fs, rfl, ea, hno⟩ := obj_view r1.sto b1 h1
  refine ⟨a, _, dx, fs, k, f, fd, ps, _, rfl, ea, hc.cls, hc.mt, hno _ hc.no, hF, hr, hb, ?_⟩
  exact perm_post postD r1 p2 fun g2 H2 ds S2 vs st2 r2 b2 hl p3 => ⟨by rw [← b2.length]; exact hl, spF_D hlv r2 (.cons (b1.step st2) (perm_reps b2)) p3⟩
theorem sd_callK (ks : List Str) (perm : List Nat) (F : FnOk X.prog X.w X.K X.mg X.base (L2N.CX X.prog X.w) k f fd ps (spF X.K J.C lv false Fm)) (hx : Lets X J.W) (hr : Room k X.A) (hm : X.mg x = some (.ref f)) (hk : PySem.W.keepIn X.K (.ref f) = true) (hb : KB X.K fd ps ks 0 perm) (hkw : SKs X J Γ kws ma)
    (hlv : lv = true → J.lv = true := by first | exact fun h => h | exact fun _ => rfl | exact fun h => Bool.noConfusion h) (hg : Gl X x := by rfl) (hdb : (x == ("__debug__" : Str)) = false := by decide) (hall : (backToKw pos (keywordEach kws X.env)).all (·.1.isSome) = true := by rfl) (hks : (backToKw pos (keywordEach kws X.env)).filterMap (·.1) = ks := by rfl)
    (hpl : ((backTo pos (starEach [] X.env)).any (·.1) || (backToKw pos (keywordEach kws X.env)).any (·.1.isNone)) = false := by rfl) :
    SD X J Γ (.Call (.Name x p) [] kws pos) (mCall Fm (mPerm ks.length perm ma)) := PE.imp (pe_ck F hx hr hm hk hb hkw hg hdb hall hks hpl) fun σ H Q q => by
  obtain ⟨g, sl, S, rl, p⟩ := tD_iff.mp q
  exact perm_post postD rl p fun g1 H1 ds S1 vs st1 r1 b1 hl p1 => ⟨by rw [← b1.length]; exact hl, spF_D hlv r1 (perm_reps b1) p1⟩

/-! ### C(..) -/
/-- a new object of class c with nf attributes, then __init__ -/
def mkObj (c nf : Nat) (F : Fn) (ds : List D) : Mx D := fun _ S => match F (.ref S.length :: ds) (S ++ [⟨c, List.replicate nf none⟩]) with
  | .ok .non S' => .ok (.ref S.length) S'
  | .err x S' => .err x S'
  | _ => .stuck
def mMk (c nf : Nat) (F : Fn) (ma : Mx (List D)) : Mx D := bindX ma (mkObj c nf F)
def Gh.made (g : Gh) (n : Nat) (x : Addr) : Gh := ⟨g.G, g.ρ ++ [x], fun a => if a = x then some (.obj n) else g.drop.own a⟩
section
variable {K : PySem.W.Frag} {C : Cfg} {g : Gh} {H : Hp} {S : Sto} {a dx : Addr}
theorem made_get {c : Nat} {n : Nat} (hd : dx ≠ a) : (upd (upd H dx (.own a)) a (.ins (C.ca c) dx [])) a = some (.ins (C.ca c) dx []) := upd_same
theorem made_old {c : Nat} {b : Addr} {o : HO} (ha : H a = none) (hdx : H dx = none) (h : H b = some o) : (upd (upd H dx (.own a)) a (.ins (C.ca c) dx [])) b = some o := by
  rw [upd_ne (ne_of_none h ha), upd_ne (ne_of_none h hdx)]; exact h
theorem made_stp {c n : Nat} (ha : H a = none) (hdx : H dx = none) : Stp (cE true) g.drop H (g.made n a) (upd (upd H dx (.own a)) a (.ins (C.ca c) dx [])) where
  gG := Same.refl _
  fr := fun b o h _ => made_old ha hdx h
  lv := fun b h => by
    cases e : H b with
    | none => rfl
    | some o => rw [made_old (C := C) (c := c) ha hdx e] at h; cases h
  ow := fun b w h k => by cases w <;> first | exact absurd rfl ((drop_own h).2 _) | cases k
  nw := fun b w h => by
    by_cases z : b = a
    · exact .inr (by rw [z]; exact ha)
    · have h' : (if b = a then some (Ow.obj n) else g.drop.own b) = some w := h
      rw [if_neg z] at h'; exact .inl h'
  ng := fun _ _ h => .inl h
  ro := fun i b h => by
    have h : g.ρ[i]? = some b := h
    show (g.ρ ++ [a])[i]? = some b
    rw [List.getElem?_append_left (List.getElem?_eq_some_iff.mp h).1]; exact h
theorem made_sto {c : Nat} (s : StoOk K C g H S) (ha : H a = none) (hdx : H dx = none) (hd : dx ≠ a) : StoOk K C (g.made S.length a) (upd (upd H dx (.own a)) a (.ins (C.ca c) dx [])) (S ++ [⟨c, List.replicate (C.fl c).length none⟩]) := by
  have na : ∀ {b w}, g.own b = some w → b ≠ a := fun {b w} h z => by rw [z] at h; exact (s.fro a w h).2 ha
  have own' : ∀ {b w}, g.own b = some w → (∀ i, w ≠ .slot i) → (g.made S.length a).own b = some w := fun {b w} h k => by
    show (if b = a then _ else g.drop.own b) = some w
    rw [if_neg (na h)]; exact drop_own' h k
  have keepH : ∀ {b}, H b ≠ none → (upd (upd H dx (.own a)) a (.ins (C.ca c) dx [])) b = H b := fun {b} h => by
    cases e : H b with
    | none => exact absurd e h
    | some o => exact made_old (C := C) (c := c) ha hdx e
  have hro : ∀ (i : Nat) (b : Addr), g.ρ[i]? = some b → (g.made S.length a).ρ[i]? = some b := (made_stp (C := C) (c := c) (g := g) (n := S.length) ha hdx).ro
  refine ⟨fun b o h => made_old ha hdx (s.sub b o h), fun b w h => ?_, ?_, fun i ob e => ?_⟩
  · by_cases z : b = a
    · subst z
      exact ⟨s.sub.free ha, by rw [upd_same]; exact fun z => by cases z⟩
    · have h' : (if b = a then some (Ow.obj S.length) else g.drop.own b) = some w := h
      rw [if_neg z] at h'
      obtain ⟨h1, h2⟩ := s.fro b w (drop_own h').1
      exact ⟨h1, by rw [keepH h2]; exact h2⟩
  · show (g.ρ ++ [a]).length = _
    rw [List.length_append, List.length_append, s.rlen]; rfl
  · by_cases hi : i < S.length
    · rw [List.getElem?_append_left hi] at e
      obtain ⟨b, bx, fs, h1, h2⟩ := s.ob i ob e
      refine ⟨b, bx, fs, hro _ _ h1, made_old ha hdx h2.at_, own' h2.own (fun _ z => by cases z), h2.len, fun j n od hn ho => ?_, h2.no, h2.few⟩
      have q := h2.fld j n od hn ho
      cases od with
      | none => exact q
      | some d =>
        obtain ⟨v, e1, e2⟩ := q
        refine ⟨v, e1, ?_⟩
        by_cases hw : C.ow ob.c j = true
        · rw [if_pos hw] at e2 ⊢
          obtain ⟨p, rfl, hp, hc⟩ := e2
          exact ⟨p, rfl, own' hp (fun _ z => by cases z), hc.mono (keepH (s.fro p _ hp).2) (Same.refl _) hro⟩
        · rw [if_neg hw] at e2 ⊢
          exact e2.mono (Same.refl _) hro
    · have hz : i = S.length := by
        have := (List.getElem?_eq_some_iff.mp e).1
        rw [List.length_append] at this
        simp at this; omega
      subst hz
      rw [List.getElem?_append_right (Nat.le_refl _), Nat.sub_self] at e
      cases e
      refine ⟨a, dx, [], ?_, upd_same, ?_, by simp, fun j n od hn ho => ?_, fun _ _ => rfl, Nat.zero_le _⟩
      · show (g.ρ ++ [a])[S.length]? = some a
        rw [← s.rlen, List.getElem?_append_right (Nat.le_refl _), Nat.sub_self]; rfl
      · show (if a = a then _ else _) = _; rw [if_pos rfl]
      · rw [List.getElem?_replicate] at ho
        split at ho
        · cases ho; exact rfl
        · cases ho
end
theorem mk_spF {K : PySem.W.Frag} {σ : L2.St} {H : Hp} {Q : VK} {ds : List D} {vs : List V} {g : Gh} {sl : List (Option D)} {S : Sto} {a dx : Addr} {c nf : Nat} (hl : J.lv = true) (hnf : nf = (J.C.fl c).length) (rl : Rel K J.C Γ g sl S σ H) (b : Reps K J.C g.G g.ρ ds vs) (q : PD K J Γ σ sl g H Q (mkObj c nf Fm ds sl S))
    (ha : H a = none) (hdx : H dx = none) (hd : dx ≠ a) : spF K J.C lv false Fm (.ref a :: vs) (upd (upd H dx (.own a)) a (.ins (J.C.ca c) dx [])) (fun v H2 => v = .non ∧ Q (.ref a) H2) (WE J.W σ) := by
  subst hnf
  have st0 : Stp (cE true) g.drop H (g.made S.length a) (upd (upd H dx (.own a)) a (.ins (J.C.ca c) dx [])) := made_stp ha hdx
  refine ⟨g.made S.length a, .ref S.length :: ds, S ++ [⟨c, List.replicate (J.C.fl c).length none⟩], fun b i h => ?_, made_sto rl.sto ha hdx hd, .cons (.ref ?_) (b.mono st0.gG st0.ro), ?_⟩
  · have h' : (if b = a then some (Ow.obj S.length) else g.drop.own b) = some (.slot i) := h
    split at h'
    · cases h'
    · exact drop_no b i h'
  · show (g.ρ ++ [a])[S.length]? = some a
    rw [← rl.sto.rlen, List.getElem?_append_right (Nat.le_refl _), Nat.sub_self]; rfl
  · unfold mkObj at q
    have up : ∀ {g' H'}, Stp (cE lv) (g.made S.length a) (upd (upd H dx (.own a)) a (.ins (J.C.ca c) dx [])) g' H' → Stp (cE J.lv) g.drop H g' H' := fun s => by
      rw [hl]
      refine st0.trans (s.weak fun w z => ?_)
      cases w <;> first | rfl | cases z
    cases e : Fm (.ref S.length :: ds) (S ++ [⟨c, List.replicate (J.C.fl c).length none⟩]) with
    | ok d S' =>
      rw [e] at q
      intro g' H' v ns st so re _
      unfold RepY at re
      rw [if_neg Bool.false_ne_true] at re
      cases d with
      | non =>
        cases re
        refine ⟨rfl, q _ H' _ (back_stp rl.sto (up st)) (rl.step (back_stp rl.sto (up st)) (back_sto rl.sto (up st) so)) (.ref ?_)⟩
        refine st.ro _ _ ?_
        show (g.ρ ++ [a])[S.length]? = some a
        rw [← rl.sto.rlen, List.getElem?_append_right (Nat.le_refl _), Nat.sub_self]; rfl
      | _ => exact False.elim q
    | err x S' =>
      rw [e] at q
      intro g' H' cls dx' ns st so re
      exact q _ H' cls dx' (back_stp rl.sto (up st)) (rl.step (back_stp rl.sto (up st)) (back_sto rl.sto (up st) so)) re
    | stuck => rw [e] at q; exact False.elim q
theorem sd_mk {c nf : Nat} (M : Mk X.K (J.C.ca c) f) (F : FnOk X.prog X.w X.K X.mg X.base (L2N.CX X.prog X.w) k f fd ps (spF X.K J.C lv false Fm)) (hx : Lets X J.W) (hr : Room (k + 1) X.A) (hm : X.mg x = some (.ref (J.C.ca c))) (hb : Binds X.K fd ps []) (ha : SDs X J Γ (e :: es) ma)
    (hl : J.lv = true := by rfl) (hnf : nf = (J.C.fl c).length := by rfl) (hg : Gl X x := by rfl) (hdb : (x == ("__debug__" : Str)) = false := by decide) (he : starEach (e :: es) X.env = (false, eval e X.env) :: starEach es X.env := by rfl) (hpl : (backTo pos (starEach es X.env)).any (·.1) = false := by rfl) :
    SD X J Γ (.Call (.Name x p) (e :: es) [] pos) (mMk c nf Fm ma) := PE.imp (pe_mk M F hx hr hm hb ha hg hdb he hpl) fun σ H Q q => by
  obtain ⟨g, sl, S, rl, p⟩ := tD_iff.mp q
  exact chDs postD rl p fun g1 H1 ds S1 vs st1 r1 b1 p1 a dx h1 h2 h3 => mk_spF hl hnf r1 b1 p1 h1 h2 h3
theorem sd_mk0 {c nf : Nat} (M : Mk X.K (J.C.ca c) f) (F : FnOk X.prog X.w X.K X.mg X.base (L2N.CX X.prog X.w) k f fd ps (spF X.K J.C lv false Fm)) (hx : Lets X J.W) (hr : Room (k + 1) X.A) (hm : X.mg x = some (.ref (J.C.ca c))) (hb : Binds X.K fd ps [])
    (hl : J.lv = true := by rfl) (hnf : nf = (J.C.fl c).length := by rfl) (hg : Gl X x := by rfl) (hdb : (x == ("__debug__" : Str)) = false := by decide) :
    SD X J Γ (.Call (.Name x p) [] [] pos) (mMk c nf Fm mNil) := PE.imp (pe_mk0 M F hx hr hm hb hg hdb) fun σ H Q q => by
  obtain ⟨g, sl, S, rl, p⟩ := tD_iff.mp q
  exact fun a dx h1 h2 h3 => mk_spF hl hnf rl .nil p h1 h2 h3
theorem sd_mkK {c nf : Nat} (ks : List Str) (perm : List Nat) (M : Mk X.K (J.C.ca c) f) (F : FnOk X.prog X.w X.K X.mg X.base (L2N.CX X.prog X.w) k f fd ps (spF X.K J.C lv false Fm)) (hx : Lets X J.W) (hr : Room (k + 1) X.A) (hm : X.mg x = some (.ref (J.C.ca c))) (hb : KB X.K fd ps ks 1 perm) (hkw : SKs X J Γ kws ma)
    (hl : J.lv = true := by rfl) (hnf : nf = (J.C.fl c).length := by rfl) (hg : Gl X x := by rfl) (hdb : (x == ("__debug__" : Str)) = false := by decide) (hall : (backToKw pos (keywordEach kws X.env)).all (·.1.isSome) = true := by rfl) (hks : (backToKw pos (keywordEach kws X.env)).filterMap (·.1) = ks := by rfl)
    (hpl : ((backTo pos (starEach [] X.env)).any (·.1) || (backToKw pos (keywordEach kws X.env)).any (·.1.isNone)) = false := by rfl) :
    SD X J Γ (.Call (.Name x p) [] kws pos) (mMk c nf Fm (mPerm ks.length perm ma)) := PE.imp (pe_mkK M F hx hr hm hb hkw hg hdb hall hks hpl) fun σ H Q q => by
  obtain ⟨g, sl, S, rl, p⟩ := tD_iff.mp q
  exact perm_post postD rl p fun g1 H1 ds S1 vs st1 r1 b1 hl' p1 => ⟨by rw [← b1.length]; exact hl', fun a dx h1 h2 h3 => mk_spF hl hnf r1 (perm_reps b1) p1 h1 h2 h3⟩
end

/-! ### raise -/
def mRaise (c n : Nat) (ms : Mx (List D)) : Ms := bindS ms fun ds sl S => if ds.length = n then .err ⟨c, ds⟩ sl S else .stuck
section
variable {X : Cx} {B : Js} {Γ Γ' : List Bool} {c k : Nat} {x f1 f2 : Str} {a b : Expr} {ma : Mx (List D)} {p pos pos2 : Pos}
theorem raise_run {K : PySem.W.Frag} {g : Gh} {H : Hp} {sl : List (Option D)} {S : Sto} {σ : L2.St} {E : Ends} {ds : List D} {dx : Addr} {fs : List (Str × V)} (rl : Rel K B.J.C Γ g sl S σ H) (hX : leG B.ΓX Γ = true) (q : PSt K B Γ' E g H (.err ⟨c, ds⟩ sl S)) (hd : H dx = none)
    (hr : ∀ G', Same g.G G' → RepF K B.J.C G' g.ρ (B.J.C.xl c) (ds.map some) fs) : B.J.W (.ref (B.J.C.ca c)) (some dx) σ (upd H dx (.xd fs)) := by
  have st : Stp (cE B.J.lv) g H (g.frz dx (.xd fs)) (upd H dx (.xd fs)) := stp_frz hd rl.sub
  exact (PSt.err (σ := σ) (Γ := Γ) (sl := sl) q hX) _ _ _ _ st (rl.step st (sto_frz rl.sto hd)) ⟨rfl, .inr ⟨dx, fs, rfl, upd_same, hr _ st.gG⟩⟩
theorem ss_raise1 (hc : X.calm = true) (tk : L2N.Takes X B.J.W) (T : PySem.EsX.EsT X.prog X.K X.mg (B.J.C.ca c) [f1]) (hi : In1 f1) (gC : X.mg x = some (.ref (B.J.C.ca c))) (kC : PySem.W.keepIn X.K (.ref (B.J.C.ca c)) = true) (rC : Raises X (.ref (B.J.C.ca c))) (hr : Room k X.A) (ha : SDs X B.J Γ [a] ma)
    (hfl : B.J.C.xl c = [f1] := by rfl) (hX : leG B.ΓX Γ = true := by rfl) (hg : Gl X x := by rfl) (hdb : (x == ("__debug__" : Str)) = false := by decide) (he : starEach (a :: []) X.env = (false, eval a X.env) :: starEach [] X.env := by rfl) (hpl : (backTo pos (starEach [] X.env)).any (·.1) = false := by rfl) :
    SS X B Γ Γ' (.Raise (some (.Call (.Name x p) [a] [] pos)) none pos2) (mRaise c 1 ma) := PS.imp (L2N.ps_raise hc tk (pmk1 T hi gC kC rC hr ha hg he hpl hdb)) fun E σ H q => by
  obtain ⟨g, sl, S, rl, p⟩ := tSt_iff.mp q
  refine csDs rl p hX fun g1 H1 ds S1 vs st1 r1 b1 p1 => ?_
  by_cases hl : ds.length = 1
  · rw [if_pos hl] at p1
    match ds, vs, hl, b1 with
    | [d], [v], _, .cons hv .nil =>
      refine ⟨v, rfl, fun dx hdx => raise_run r1 hX p1 hdx fun G' hG => ?_⟩
      rw [hfl]
      exact .some (by simp [List.lookup]) (hv.mono hG fun _ _ z => z) .nil
  · rw [if_neg hl] at p1; exact False.elim p1
theorem ss_raise2 (hc : X.calm = true) (tk : L2N.Takes X B.J.W) (T : PySem.EsX.EsT X.prog X.K X.mg (B.J.C.ca c) [f1, f2]) (hi : In2 f1 f2) (gC : X.mg x = some (.ref (B.J.C.ca c))) (kC : PySem.W.keepIn X.K (.ref (B.J.C.ca c)) = true) (rC : Raises X (.ref (B.J.C.ca c))) (hr : Room k X.A) (ha : SDs X B.J Γ [a, b] ma)
    (hfl : B.J.C.xl c = [f1, f2] := by rfl) (hX : leG B.ΓX Γ = true := by rfl) (hg : Gl X x := by rfl) (hdb : (x == ("__debug__" : Str)) = false := by decide) (he : starEach (a :: [b]) X.env = (false, eval a X.env) :: starEach [b] X.env := by rfl) (hpl : (backTo pos (starEach [b] X.env)).any (·.1) = false := by rfl) :
    SS X B Γ Γ' (.Raise (some (.Call (.Name x p) [a, b] [] pos)) none pos2) (mRaise c 2 ma) := PS.imp (L2N.ps_raise hc tk (pmk2 T hi gC kC rC hr ha hg he hpl hdb)) fun E σ H q => by
  obtain ⟨g, sl, S, rl, p⟩ := tSt_iff.mp q
  refine csDs rl p hX fun g1 H1 ds S1 vs st1 r1 b1 p1 => ?_
  by_cases hl : ds.length = 2
  · rw [if_pos hl] at p1
    match ds, vs, hl, b1 with
    | [d, d2], [v, v2], _, .cons hv (.cons hv2 .nil) =>
      refine ⟨v, v2, rfl, fun dx hdx => raise_run r1 hX p1 hdx fun G' hG => ?_⟩
      rw [hfl]
      have h12 : (f1 == f2) = false := hi.h12
      exact .some (by simp [List.lookup, h12]) (hv.mono hG fun _ _ z => z) (.some (by simp [List.lookup]) (hv2.mono hG fun _ _ z => z) .nil)
  · rw [if_neg hl] at p1; exact False.elim p1
/-- C(), C an own exception class without own __init__ -/
theorem pmk0 {C : Addr} {bmB : List Value} {Bn newId initId : String} (F : ExcBaseFacts Bn newId initId bmB) (q : PySem.W.excIn X.K C bmB newId = true) (gC : X.mg x = some (.ref C)) (kC : PySem.W.keepIn X.K (.ref C) = true) (rC : Raises X (.ref C)) (hg : Gl X x)
    (hdb : (x == ("__debug__" : Str)) = false := by decide) : L2N.PMk X (.Call (.Name x p) [] [] pos) (fun _ H Q => Q (.ref C) none H) := by
  intro pins s σ H Q I h
  refine wpAny_Call_Name_kw (ld_glob I hg gC ?_ hdb)
  refine PySem.W.callWith_K0 I.kIn kC ?_
  show wpAny _ _ (call (.ref C) []) _ _ _
  obtain ⟨bm, N, nm, qn, bs, hdct, sn, sub, ab, col, dd, k0, k1, k2, k3, k5, mN, hC, hN, hni, T⟩ := exc_obj I.kIn q
  refine wpAny_call_exc_subT F T hC hN hni (fun h' e hm => ?_) (by show 0 ≤ sizeLine; omega)
  exact L2N.mk_of I hm rC h (I.hok.gone hm.new)
theorem ss_raise0 {bmB : List Value} {Bn newId initId : String} (hc : X.calm = true) (tk : L2N.Takes X B.J.W) (F : ExcBaseFacts Bn newId initId bmB) (q : PySem.W.excIn X.K (B.J.C.ca c) bmB newId = true) (gC : X.mg x = some (.ref (B.J.C.ca c))) (kC : PySem.W.keepIn X.K (.ref (B.J.C.ca c)) = true) (rC : Raises X (.ref (B.J.C.ca c)))
    (hfl : B.J.C.xl c = [] := by rfl) (hX : leG B.ΓX Γ = true := by rfl) (hg : Gl X x := by rfl) (hdb : (x == ("__debug__" : Str)) = false := by decide) :
    SS X B Γ Γ' (.Raise (some (.Call (.Name x p) [] [] pos)) none pos2) (mRaise c 0 mNil) := PS.imp (L2N.ps_raise hc tk (pmk0 F q gC kC rC hg hdb)) fun E σ H q => by
  obtain ⟨g, sl, S, rl, p⟩ := tSt_iff.mp q
  have p : PSt X.K B Γ' E g H (.err ⟨c, []⟩ sl S) := p
  exact (PSt.err (σ := σ) (Γ := Γ) (sl := sl) p hX) g H _ _ Stp.refl rl ⟨rfl, .inl ⟨rfl, hfl, rfl⟩⟩
/-- C('text'), likewise: what it says is not looked at -/
theorem ss_raiseT {bmB : List Value} {Bn newId initId : String} {m : Str} {j : Nat} {p2 : Pos} (hc : X.calm = true) (tk : L2N.Takes X B.J.W) (F : ExcBaseFacts Bn newId initId bmB) (q : PySem.W.excIn X.K (B.J.C.ca c) bmB newId = true) (gC : X.mg x = some (.ref (B.J.C.ca c))) (kC : PySem.W.keepIn X.K (.ref (B.J.C.ca c)) = true) (rC : Raises X (.ref (B.J.C.ca c)))
    (hfl : B.J.C.xl c = [] := by rfl) (hX : leG B.ΓX Γ = true := by rfl) (hg : Gl X x := by rfl) (hdb : (x == ("__debug__" : Str)) = false := by decide) :
    SS X B Γ Γ' (.Raise (some (.Call (.Name x p) [.Constant (.str m) j p2] [] pos)) none pos2) (mRaise c 0 mNil) := PS.imp (L2N.ps_raise hc tk (L2N.pmk_own F q gC kC rC hg hdb)) fun E σ H q => by
  obtain ⟨g, sl, S, rl, p⟩ := tSt_iff.mp q
  have p : PSt X.K B Γ' E g H (.err ⟨c, []⟩ sl S) := p
  exact (PSt.err (σ := σ) (Γ := Γ) (sl := sl) p hX) g H _ _ Stp.refl rl ⟨rfl, .inl ⟨rfl, hfl, rfl⟩⟩
end
end Sm
set_option Elab.async false
set_option linter.all false
set_option maxRecDepth 100000
set_option maxHeartbeats 2000000
/-! Sim 16: try, suites, hot calls, borrowed arguments. -/
namespace Sm
open PySem PySem.Spec PyProof.Rows L2

/-! ### another caught exception -/
section
variable {K : PySem.W.Frag} {C : Cfg} {G : Hp} {ρ : List Addr} {z : Option Cau}
abbrev Cfg.with_ (C : Cfg) (z : Option Cau) : Cfg := { C with cau := z }
mutual
theorem Rep.w : ∀ {d : D} {v : V}, Rep K C G ρ d v → Rep K (C.with_ z) G ρ d v
  | _, _, .non => .non
  | _, _, .bl b => .bl b
  | _, _, .int i => .int i
  | _, _, .str x => .str x
  | _, _, .lst h r => .lst h (Reps.w r)
  | _, _, .tup h r => .tup h (Reps.w r)
  | _, _, .dK h r => .dK h (RepK.w r)
  | _, _, .dT h r => .dT h (RepT.w r)
  | _, _, .ref h => .ref h
  | _, _, .obj h r q => .obj h (RepF.w r) q
theorem Reps.w : ∀ {ds : List D} {vs : List V}, Reps K C G ρ ds vs → Reps K (C.with_ z) G ρ ds vs
  | _, _, .nil => .nil
  | _, _, .cons h r => .cons (Rep.w h) (Reps.w r)
theorem RepK.w : ∀ {ds : List (Key × D)} {vs : List (Key × V)}, RepK K C G ρ ds vs → RepK K (C.with_ z) G ρ ds vs
  | _, _, .nil => .nil
  | _, _, .cons h r => .cons (Rep.w h) (RepK.w r)
theorem RepT.w : ∀ {ds : List (List Key × D)} {vs : List (List Key × V)}, RepT K C G ρ ds vs → RepT K (C.with_ z) G ρ ds vs
  | _, _, .nil => .nil
  | _, _, .cons h r => .cons (Rep.w h) (RepT.w r)
theorem RepF.w : ∀ {ns : List Str} {ds : List (Option D)} {fs : List (Str × V)}, RepF K C G ρ ns ds fs → RepF K (C.with_ z) G ρ ns ds fs
  | _, _, _, .nil => .nil
  | _, _, _, .none e r => .none e (RepF.w r)
  | _, _, _, .some e h r => .some e (Rep.w h) (RepF.w r)
end
end
section
variable {K : PySem.W.Frag} {C : Cfg} {g : Gh} {H : Hp} {S : Sto} {z : Option Cau} {Γ : List Bool} {sl : List (Option D)} {σ : L2.St}
theorem Cell.w {p : Addr} {d : D} (h : Cell K C g H p d) : Cell K (C.with_ z) g H p d := by
  cases d <;> first | exact False.elim h | (obtain ⟨vs, q, r⟩ := h; exact ⟨vs, q, r.w⟩)
theorem StoOk.w (s : StoOk K C g H S) : StoOk K (C.with_ z) g H S := ⟨s.sub, s.fro, s.rlen, fun i ob e => by
  obtain ⟨a, dx, fs, h1, o⟩ := s.ob i ob e
  refine ⟨a, dx, fs, h1, o.at_, o.own, o.len, fun k n od hn ho => ?_, o.no, o.few⟩
  have q := o.fld k n od hn ho
  cases od with
  | none => exact q
  | some d =>
    obtain ⟨v, e1, e2⟩ := q
    refine ⟨v, e1, ?_⟩
    by_cases hw : C.ow ob.c k = true
    · rw [if_pos hw] at e2 ⊢
      obtain ⟨p, hp, ho, hc⟩ := e2
      exact ⟨p, hp, ho, hc.w⟩
    · rw [if_neg hw] at e2 ⊢
      exact e2.w⟩
theorem RepX.w {x : Exc} {cls : Value} {dx : Option Addr} (h : RepX K C g x cls dx) : RepX K (C.with_ z) g x cls dx := by
  obtain ⟨h1, h2⟩ := h
  refine ⟨h1, h2.imp_right ?_⟩
  rintro ⟨a, fs, e, q, r⟩
  exact ⟨a, fs, e, q, r.w⟩
theorem RepR.w {fresh : Bool} {d : D} {v : V} (h : RepR K C fresh g H d v) : RepR K (C.with_ z) fresh g H d v := by
  unfold RepR at h ⊢
  split
  · rename_i q
    rw [if_pos q] at h
    obtain ⟨p, h1, h2, h3⟩ := h
    exact ⟨p, h1, h2, h3.w⟩
  · rename_i q
    rw [if_neg q] at h
    exact h.w
/-- into a suite whose clause names slot i -/
theorem rel_in {i : Nat} {a : Addr} {cls : Value} {dx : Option Addr} {x : Exc} (r : Rel K C Γ g sl S σ H) (hx : RepX K C g x cls dx) (hi : i < sl.length) : Rel K (C.with_ (some ⟨i, a, cls, dx, x⟩)) Γ g (sl.set i none) S (σ.set i (some (.ref a))) H := by
  have ne : ∀ {j : Nat} {d : D}, (sl.set i none)[j]? = some (some d) → i ≠ j ∧ sl[j]? = some (some d) := fun {j d} e => by
    by_cases z : i = j
    · subst z
      rw [List.getElem?_set_self hi] at e; cases e
    · exact ⟨z, by rwa [List.getElem?_set_ne z] at e⟩
  refine ⟨r.sto.w, by rw [List.length_set, List.length_set]; exact r.len, fun j d e q => ?_, fun j d e q => ?_, fun c e => ?_⟩
  · obtain ⟨z, e⟩ := ne e
    obtain ⟨v, h1, h2⟩ := r.slF j d e q
    exact ⟨v, by rw [List.getElem?_set_ne z]; exact h1, h2.w⟩
  · obtain ⟨z, e⟩ := ne e
    obtain ⟨p, h1, h2, h3⟩ := r.slO j d e q
    exact ⟨p, by rw [List.getElem?_set_ne z]; exact h1, h2, h3.w⟩
  · cases e
    exact ⟨fun _ => List.getElem?_set_self (by rw [← r.len]; exact hi), hx.w⟩
theorem rel_w {Γ : List Bool} (hz : C.cau = none) (r : Rel K C Γ g sl S σ H) : Rel K (C.with_ none) Γ g sl S σ H :=
  ⟨r.sto.w, r.len, fun j d e q => let ⟨v, h1, h2⟩ := r.slF j d e q; ⟨v, h1, h2.w⟩, fun j d e q => let ⟨p, h1, h2, h3⟩ := r.slO j d e q; ⟨p, h1, h2, h3.w⟩, fun c e => by cases e⟩
/-- out of it -/
theorem rel_out {i : Nat} {z : Cau} (hz : C.cau = none) (r : Rel K (C.with_ (some z)) Γ g sl S σ H) : Rel K C Γ g (sl.set i none) S (σ.set i none) H := by
  have hC : (C.with_ (some z)).with_ none = C := by cases C; cases hz; rfl
  have ne : ∀ {j : Nat} {d : D}, (sl.set i none)[j]? = some (some d) → i ≠ j ∧ sl[j]? = some (some d) := fun {j d} e => by
    by_cases z : i = j
    · subst z
      have hi : i < sl.length := by
        have := (List.getElem?_eq_some_iff.mp e).1
        rw [List.length_set] at this; exact this
      rw [List.getElem?_set_self hi] at e; cases e
    · exact ⟨z, by rwa [List.getElem?_set_ne z] at e⟩
  have back : Rel K ((C.with_ (some z)).with_ none) Γ g (sl.set i none) S (σ.set i none) H := by
    refine ⟨r.sto.w, by rw [List.length_set, List.length_set]; exact r.len, fun j d e q => ?_, fun j d e q => ?_, fun c e => by cases e⟩
    · obtain ⟨z, e⟩ := ne e
      obtain ⟨v, h1, h2⟩ := r.slF j d e q
      exact ⟨v, by rw [List.getElem?_set_ne z]; exact h1, h2.w⟩
    · obtain ⟨z, e⟩ := ne e
      obtain ⟨p, h1, h2, h3⟩ := r.slO j d e q
      exact ⟨p, by rw [List.getElem?_set_ne z]; exact h1, h2, h3.w⟩
  rwa [hC] at back
theorem rel_out0 (hz : C.cau = none) (r : Rel K (C.with_ none) Γ g sl S σ H) : Rel K C Γ g sl S σ H := by
  have hC : C.with_ none = C := by cases C; cases hz; rfl
  rwa [hC] at r
theorem sto_out {z : Option Cau} (hz : C.cau = none) (s : StoOk K (C.with_ z) g H S) : StoOk K C g H S := by
  have hC : (C.with_ z).with_ none = C := by cases C; cases hz; rfl
  have b := s.w (z := none)
  rwa [hC] at b
theorem repR_out {z : Option Cau} {fresh : Bool} {d : D} {v : V} (hz : C.cau = none) (s : RepR K (C.with_ z) fresh g H d v) : RepR K C fresh g H d v := by
  have hC : (C.with_ z).with_ none = C := by cases C; cases hz; rfl
  have b := RepR.w (z := none) s
  rwa [hC] at b
end

/-! ### try -/
/-- a clause: its class, which errors are its, its name's slot, its suite -/
structure Cl where
  ok : List (Nat × Bool)
  oi : Option Nat
  mh : Exc → Ms
def unset (oi : Option Nat) (sl : List (Option D)) : List (Option D) := match oi with
  | some i => sl.set i none
  | none => sl
/-- a suite's end -/
def suEnd (oi : Option Nat) : Rs → Rs
  | .next sl S => .next (unset oi sl) S
  | .brk sl S => .brk (unset oi sl) S
  | .cont sl S => .cont (unset oi sl) S
  | .ret d S => .ret d S
  | _ => .stuck
def mHd : List Cl → Exc → Ms
  | [], x => fun sl S => .err x sl S
  | c :: r, x => fun sl S => match c.ok.lookup x.c with
    | some true => if c.oi.all (fun i => decide (i < sl.length)) = true then suEnd c.oi (c.mh x (unset c.oi sl) S) else .stuck
    | some false => mHd r x sl S
    | none => .stuck
def mTry (mb : Ms) (cs : List Cl) : Ms := fun sl S => match mb sl S with
  | .err x sl' S' => mHd cs x sl' S'
  | r => r
abbrev suB (B : Js) (z : Option Cau) : Js := ⟨⟨B.J.C.with_ z, fun _ _ _ _ => False, B.J.lv⟩, [], B.ΓL, B.fresh⟩
def tSu (K : PySem.W.Frag) (B : Js) (Γh Γ' : List Bool) (oi : Option Nat) (mh : Exc → Ms) (a : Addr) (cls : Value) (d : Option Addr) : TS := fun E σ H =>
  ∃ x, tSt K (suB B (oi.map fun i => ⟨i, a, cls, d, x⟩)) Γh Γ' (mh x) E σ H
def Cl.to (K : PySem.W.Frag) (B : Js) (Γh Γ' : List Bool) (cv : Value) (c : Cl) : Clause := (cv, c.oi, tSu K B Γh Γ' c.oi c.mh)
section
variable {X : Cx} {B : Js} {Γ Γ' Γh : List Bool}
theorem su_pss {su : List Stmt} {oi : Option Nat} {mh : Exc → Ms} {a : Addr} {cls : Value} {d : Option Addr} (h : ∀ x, SSs X (suB B (oi.map fun i => ⟨i, a, cls, d, x⟩)) Γh Γ' su (mh x)) : PSs X su (tSu X.K B Γh Γ' oi mh a cls d) :=
  ⟨fun pins s σ H Q I ⟨x, q⟩ => (h x).run pins s σ H Q I q⟩
def OkT (K : PySem.W.Frag) (C : Cfg) (cv : Value) (ok : List (Nat × Bool)) : Prop := ∀ i b, ok.lookup i = some b → PySem.W.exmOne K (.ref (C.ca i)) cv = some b
inductive OkTs (K : PySem.W.Frag) (C : Cfg) : List Value → List Cl → Prop
  | nil : OkTs K C [] []
  | cons {cv : Value} {c : Cl} {cvs : List Value} {cs : List Cl} (h : OkT K C cv c.ok) (r : OkTs K C cvs cs) : OkTs K C (cv :: cvs) (c :: cs)
theorem try_go {K : PySem.W.Frag} {E : Ends} {g0 : Gh} {H0 : Hp} (hca : B.J.C.cau = none) (hXh : leG B.ΓX Γh = true) {x : Exc} {cls : Value} {dx : Option Addr} {sl : List (Option D)} {S : Sto} {σ : L2.St} {g : Gh} {H : Hp} (st : Stp (cS B.J.lv) g0 H0 g H) (rl : Rel K B.J.C Γh g sl S σ H) (hx : RepX K B.J.C g x cls dx) :
    ∀ {cvs : List Value} {cs : List Cl}, OkTs K B.J.C cvs cs → PSt K B Γ' E g0 H0 (mHd cs x sl S) → wMix K B.J.W E (List.zipWith (Cl.to K B Γh Γ') cvs cs) cls dx σ H
  | _, _, .nil, p => by
    have st2 := let_stp (Γ1 := B.ΓX) (lv := B.J.lv) rl.sto
    exact p _ H σ cls dx (st.trans st2) (rel_let rl hXh) (hx.step st2)
  | cv :: cvs, c :: cs, .cons hok1 hok, p => by
    unfold mHd at p
    cases e : c.ok.lookup x.c with
    | none => rw [e] at p; exact False.elim p
    | some b =>
      rw [e] at p
      have h1 := hok1 x.c b e
      rw [← hx.1] at h1
      refine ⟨b, h1, fun hb a ha => ?_, fun hb => ?_⟩
      · subst hb
        have p : PSt K B Γ' E g0 H0 (if c.oi.all (fun i => decide (i < sl.length)) = true then suEnd c.oi (c.mh x (unset c.oi sl) S) else .stuck) := p
        by_cases hl : c.oi.all (fun i => decide (i < sl.length)) = true
        rotate_left
        · rw [if_neg hl] at p; exact False.elim p
        rw [if_pos hl] at p
        obtain ⟨ok, oi, mh⟩ := c
        cases oi with
        | none =>
          show tSu K B Γh Γ' none mh a cls dx E σ H
          refine ⟨x, tSt_iff.mpr ⟨g, sl, S, rel_w hca rl, ?_⟩⟩
          have p := PSt.step st p
          show PSt K (suB B none) Γ' E g H (mh x sl S)
          have p : PSt K B Γ' E g H (suEnd none (mh x sl S)) := p
          cases em : mh x sl S with
          | next sl2 S2 => rw [em] at p; exact fun g' H' σ' s r => p g' H' σ' s (rel_out0 hca r)
          | ret d S2 => rw [em] at p; exact fun g' H' v s so re => p g' H' v s (sto_out hca so) (repR_out hca re)
          | brk sl2 S2 => rw [em] at p; exact fun g' H' σ' s r => p g' H' σ' s (rel_out0 hca r)
          | cont sl2 S2 => rw [em] at p; exact fun g' H' σ' s r => p g' H' σ' s (rel_out0 hca r)
          | err y sl2 S2 => rw [em] at p; exact False.elim p
          | stuck => rw [em] at p; exact False.elim p
        | some i =>
          show tSu K B Γh Γ' (some i) mh a cls dx (endsAs E i) (σ.set i (some (.ref a))) H
          have p := PSt.step st p
          have p : PSt K B Γ' E g H (suEnd (some i) (mh x (sl.set i none) S)) := p
          have hi : i < sl.length := by simpa using hl
          · refine ⟨x, tSt_iff.mpr ⟨g, sl.set i none, S, rel_in rl hx hi, ?_⟩⟩
            show PSt K (suB B (some ⟨i, a, cls, dx, x⟩)) Γ' (endsAs E i) g H (mh x (sl.set i none) S)
            cases em : mh x (sl.set i none) S with
            | next sl2 S2 => rw [em] at p; exact fun g' H' σ' s r => p g' H' _ s (rel_out hca r)
            | ret d S2 => rw [em] at p; exact fun g' H' v s so re => p g' H' v s (sto_out hca so) (repR_out hca re)
            | brk sl2 S2 => rw [em] at p; exact fun g' H' σ' s r => p g' H' _ s (rel_out hca r)
            | cont sl2 S2 => rw [em] at p; exact fun g' H' σ' s r => p g' H' _ s (rel_out hca r)
            | err y sl2 S2 => rw [em] at p; exact False.elim p
            | stuck => rw [em] at p; exact False.elim p
      · subst hb
        exact try_go hca hXh st rl hx hok p
theorem ss_try {body : List Stmt} {h₀ : ExceptHandler} {hds : List ExceptHandler} {cvs : List Value} {cs : List Cl} {pos : Pos} {mb : Ms} (tk : L2N.Takes X B.J.W)
    (hb : ∀ (W : WX) (pn : List (Addr × Obj)) (xe : Value → Shared → Prop), L2N.Takes (X.tr pn xe) W → PassesOwn (model X.prog X.w) X.A X.env xe → SSs (X.tr pn xe) ⟨⟨B.J.C, W, B.J.lv⟩, Γh, B.ΓL, B.fresh⟩ Γ Γ' body mb)
    (hh : HMix X (h₀ :: hds) (List.zipWith (Cl.to X.K B Γh Γ') cvs cs)) (hok : OkTs X.K B.J.C cvs cs) (hXh : leG B.ΓX Γh = true := by rfl) (hca : B.J.C.cau = none := by rfl) (hs : X.stack = X.env :: X.outer := by rfl) (hf : X.env.frame = some X.env.locals := by rfl) :
    SS X B Γ Γ' (.Try body (h₀ :: hds) [] [] pos) (mTry mb cs) := PS.imp (ps_try_mix (tb := fun W => tSt X.K ⟨⟨B.J.C, W, B.J.lv⟩, Γh, B.ΓL, B.fresh⟩ Γ Γ' mb) hs hf tk hb hh) fun E σ H q => by
  obtain ⟨g, sl, S, rl, p⟩ := tSt_iff.mp q
  refine tSt_iff.mpr ⟨g, sl, S, rl, ?_⟩
  unfold mTry at p
  cases e : mb sl S with
  | next sl2 S2 => rw [e] at p; exact p
  | ret d S2 => rw [e] at p; exact p
  | brk sl2 S2 => rw [e] at p; exact p
  | cont sl2 S2 => rw [e] at p; exact p
  | stuck => rw [e] at p; exact p
  | err x sl2 S2 =>
    rw [e] at p
    exact fun g' H' σ' cls dx st r hx => try_go hca hXh st r hx hok p
theorem ss_stuck {st : Stmt} : SS X B Γ Γ' st (fun _ _ => .stuck) := ⟨fun pins s σ H Q I q => by obtain ⟨g, sl, S, rl, p⟩ := tSt_iff.mp q; exact p.elim⟩
theorem sd_stuck {e : Expr} {J : Jd} : SD X J Γ e (fun _ _ => .stuck) := ⟨fun pins s σ H Q I q => by obtain ⟨g, sl, S, rl, p⟩ := tD_iff.mp q; exact p.elim⟩
end

/-! ### what a suite says of its exception -/
/-- e.f: cs tells the place by the class -/
def mXf (i : Nat) (cs : List (Nat × Nat)) (x : Exc) : Mx D := fun sl S => match sl[i]? with
  | some none => match cs.lookup x.c with
    | some k => match x.fs[k]? with
      | some d => .ok d S
      | none => .stuck
    | none => .stuck
  | _ => .stuck
structure XfAt (K : PySem.W.Frag) (C : Cfg) (f : Str) (cs : List (Nat × Nat)) : Prop where
  at_ : ∀ c k, cs.lookup c = some k → (C.xl c)[k]? = some f ∧ XfC K (C.ca c) ∧ PySem.W.findIn K (.ref (C.ca c)) f = some none
theorem sd_xf {X : Cx} {J : Jd} {Γ : List Bool} {i : Nat} {a : Addr} {oe : Obj} {cls : Value} {d : Option Addr} {pn : List (Addr × Obj)} {x : Exc} {y f : Str} {p pos : Pos} (cs : List (Nat × Nat)) (hc : J.C.cau = some ⟨i, a, cls, d, x⟩) (T : XfAt X.K J.C f cs) (hz : Zc cls d oe) (hf : ∃ vs, oe.data = .fields vs)
    (hN : X.N[i]? = some y := by rfl) (hv : Vis X.env.scope y := by first | exact Or.inl rfl | exact Or.inr (Or.inl rfl) | exact Or.inr (Or.inr rfl)) (hd : (y == ("__debug__" : Str)) = false := by decide) (hcd : (y == ("__classdict__" : Str)) = false := by decide)
    (hb : attributeBase (.Name y p) f X.env (eval (.Name y p) X.env) = eval (.Name y p) X.env := by rfl) : SD (X.suite a ((a, oe) :: pn)) J Γ (.Attribute (.Name y p) f pos) (mXf i cs x) := by
  cases hl : cs.lookup x.c with
  | none =>
    refine PE.imp (sd_stuck (J := J) (Γ := Γ)) fun σ H Q q => ?_
    obtain ⟨g, sl, S, rl, p⟩ := tD_iff.mp q
    refine tD_iff.mpr ⟨g, sl, S, rl, ?_⟩
    unfold mXf at p
    rw [hl] at p
    split at p
    · exact p
    · exact p
  | some k =>
    obtain ⟨h1, h2, h3⟩ := T.at_ _ _ hl
    refine PE.imp (pe_xf (X := X) (C := J.C.ca x.c) h2 h3 hz hf (pe_var (X := X.suite a ((a, oe) :: pn)) hN hv hd hcd) hb) fun σ H Q q => ?_
    obtain ⟨g, sl, S, rl, p⟩ := tD_iff.mp q
    unfold mXf at p
    rw [hl] at p
    obtain ⟨c1, c2⟩ := rl.cau _ hc
    split at p
    · rename_i e
      have p : PD X.K J Γ σ sl g H Q (match x.fs[k]? with | some d => .ok d S | none => .stuck) := p
      cases ek : x.fs[k]? with
      | none => rw [ek] at p; exact False.elim p
      | some v =>
        rw [ek] at p
        refine ⟨_, c1 e, rfl, c2.1, ?_⟩
        rcases c2.2 with ⟨z1, _, _⟩ | ⟨dd, fs, z1, z2, z3⟩
        · have z1 : x.fs = [] := z1
          rw [z1] at ek; simp at ek
        · obtain ⟨u, u1, u2⟩ := repF_at z3 h1 (show (x.fs.map some)[k]? = some (some v) by rw [List.getElem?_map, ek]; rfl)
          exact ⟨dd, fs, u, z1, rl.sub _ _ z2, u1, PD.now p rl u2⟩
    · exact False.elim p
end Sm
namespace PySem.W
open PySem PySem.Spec PySem.Calls PyProof.Rows
section
variable {prog : Program} {w : World} {A : Around} {E : Value → Shared → Prop} {s : Shared} {K : Frag} {x Cc : Addr} {ox : Obj} {dob : Option Obj}
/-- a data descriptor of the class comes before the instance's own dict -/
theorem sm_descr {n : Str} {a gt : Value} (hc : (clsIn K Cc).isSome = true) (ha : findIn K (.ref Cc) n = some (some a)) (hg : specialIn K a "__get__" = some (some gt)) (ht : takesIn K a = some true) : findObj K Cc dob n = some (.bind gt a) := by
  cases e : clsIn K Cc with
  | none => rw [e] at hc; cases hc
  | some cd =>
    unfold findObj
    rw [e, Option.bind_some, ha, Option.bind_some]
    simp [hg, ht]
theorem sm_class {Q : Option Value → Shared → Prop} (T : L2.ExcC K Cc) (X : K.In s.heap) (I : InstAt s.heap x ox Cc dob) (h : Q (some (.ref Cc)) { s with toks := s.toks + 1 }) : wpAny (model prog w) A (getAttr? (.ref x) "__class__") Q E s := by
  have fo : findObj K Cc dob "__class__" = some (.bind (.builtin "getset_descriptor.__get__") (.builtin "object.__class__")) := by
    obtain ⟨cd, hc, _⟩ := any_some T.hd
    exact sm_descr (by rw [hc]; rfl) T.ha T.hn T.ht
  obtain ⟨H0, g0, dr0, t0, os0⟩ := s
  have e2 : (Value.builtin "BaseException.__getattribute__" == Value.builtin "object.__getattribute__") = false := by decide +kernel
  have e1 : (onTheHeap (Value.ref Cc) && Value.builtin "BaseException.__getattribute__" == Value.builtin "object.__getattribute__") = false := by rw [e2]; rfl
  have e0 : (false && onTheHeap (Value.builtin "BaseException.__getattribute__")) = false := rfl
  have k1 := I.type (M := model prog w)
  have k2 := looks_findIn (M := model prog w) X T.hg
  have k3 := looks_findIn (M := model prog w) X T.hk
  have k4 := looks_find (M := model prog w) X I fo
  have k5 : Looks (model prog w) H0 (isInstance (.ref x) (.type "BaseException")) true := k1.andThen (looks_subIn X T.hs)
  unfold getAttr? getAttrBy? getAttrBy
  refine wpAny_bind (wpAny_mkText (wpAny_bind (wpAny_attempt (wpAny_holding (wpAny_bind (k1.at (wpAny_bind (k2.at ?_))))))))
  show wpAny _ _ (if (onTheHeap (Value.ref Cc) && Value.builtin "BaseException.__getattribute__" == Value.builtin "object.__getattribute__") = true then _ else _) _ _ _
  rw [e1, if_neg Bool.false_ne_true]
  unfold getAttrByItsOwn hookBefore
  refine wpAny_bind ?_
  rw [if_pos (show onTheHeap (Value.ref Cc) = true from rfl)]
  refine k3.at (wpAny_bind (wpAny_attempt (wpAny_holding ?_)))
  unfold callGetattribute
  rw [e0, if_neg Bool.false_ne_true]
  unfold boundAndCalled
  rw [PySem.F.excAttr_ValueError.ga.bind (.ref x)]
  refine wpAny_bind (wpAny_pure ?_)
  show wpAny _ _ (call (.builtin "BaseException.__getattribute__") [.ref x, .str "__class__" t0]) _ _ _
  refine wpAny_call (codeAny_call_builtin PySem.F.excAttr_ValueError.ga.plain PySem.F.entry_bexc_ga (@check_slot (model prog w) _ _ ⟨H0, g0, dr0, t0 + 1, os0⟩ "BaseException.__getattribute__" "BaseException" "__getattribute__" (.ref x) [.str "__class__" t0] [] _ (by decide +kernel) (by decide +kernel) k5 (PySem.F.args_bexc_ga (.ref x) (.str "__class__" t0)) ?_))
  unfold Builtin.«object.__getattribute__»
  refine wpAny_bind (wpAny_of_eq (a := ((Value.ref x : Value), [Value.str "__class__" t0])) (by first | rfl | (simp only [slotArgs]; rfl)) (wpAny_bind (wpAny_pure (wpAny_bind (k1.at (wpAny_bind (k4.at ?_)))))))
  show wpAny _ _ (holding [Value.builtin "object.__class__"] (call (.builtin "getset_descriptor.__get__") [.builtin "object.__class__", .ref x, .ref Cc]) >>= ret) _ _ _
  refine wpAny_bind (wpAny_holding (wpAny_call (class_get (s := ⟨H0, g0, dr0, t0 + 1, os0⟩) (ox := ox) (od := dob) X I T.hm (wpAny_pure ?_))))
  show wpAny _ _ (handedOut (.ref Cc)) _ _ _
  rw [handedOut_of (v := .ref Cc) rfl]
  first
    | exact wpAny_pure (wpAny_pure h)
    | exact wpAny_pure h
    | exact wpAny_pure (wpAny_bind (wpAny_pure (wpAny_pure h)))
theorem sm_cls (T : L2.ExcC K Cc) : ∃ c d cd sl, K.lookup Cc = some ⟨c, d, .cls cd, sl⟩ := by
  obtain ⟨cd0, hc0, _⟩ := any_some T.hd
  unfold clsIn at hc0
  split at hc0
  · rename_i c d cd sl e
    exact ⟨c, d, cd, sl, e⟩
  · cases hc0
theorem sm_kit (T : L2.ExcC K Cc) : KitX K (.ref x) (.ref Cc) (fun h => InstAt h x ox Cc dob) where
  ty := fun _ _ _ I => I.type
  it := fun _ _ X _ => by
    obtain ⟨c, d, cd, sl, e⟩ := sm_cls T
    intro A0 Q0 E0 s0 k0 q0
    unfold isType loadHead
    exact wpAny_bind (wpAny_loadPart (k0 _ _ (X _ _ e)) (wpAny_pure q0))
  ne := fun h tp dd its n sl X htp => by
    obtain ⟨c, d, cd, sl2, e⟩ := sm_cls T
    cases z : (Value.ref Cc == Value.ref tp) with
    | false => rfl
    | true =>
      cases Value.ref.inj (beq_iff_eq.mp z)
      have w := (X _ _ e).symm.trans htp
      cases w
  ca := fun X I k => sm_class T X I k
end
end PySem.W
namespace Sm
open PySem PySem.Spec PyProof.Rows L2
/-- isinstance(e, c), e the exception that the suite holds: its dict may be there -/
def rIsX (K : PySem.W.Frag) (D0 a : Addr) (d : Option Addr) : List V → Hp → VK → Prop := fun xs H Q => ∃ (c : V) (cv : Value) (b : Bool), xs = [.ref a, c] ∧ (∀ u, RelV c u → u = cv) ∧ PySem.W.kitOne K (.ref D0) cv = some b ∧ (∀ dd, d = some dd → ∃ fs, H dd = some (.xd fs)) ∧ Q (.bl b) H
theorem call_isX {X : Cx} {a D0 : Addr} {d : Option Addr} {oe : Obj} {pn : List (Addr × Obj)} (T : ExcC X.K D0) (hz : Zc (.ref D0) d oe) (hf : ∃ vs, oe.data = .fields vs) : CallR (X.suite a ((a, oe) :: pn)) (.builtin "isinstance") (rIsX X.K D0 a d) := by
  intro pins s σ H xs us Q I r h
  obtain ⟨c, cv, b, rfl, hcv, e, hd, q⟩ := h
  obtain ⟨u1, u2, rfl, r1, r2⟩ := vals2 r
  obtain rfl : u1 = Value.ref a := r1
  obtain rfl := hcv _ r2
  obtain ⟨hget, _⟩ := I.pin (a, oe) (List.mem_append.mpr (.inl List.mem_cons_self))
  obtain ⟨vs, hv⟩ := hf
  have J : ∃ od, PySem.W.InstAt s.heap a oe D0 od := by
    cases d with
    | none =>
      obtain ⟨oc, od, oda, osl⟩ := oe
      obtain ⟨h1, h2⟩ := hz
      dsimp only at h1 h2 hv
      subst h1 h2 hv
      exact ⟨none, hget, rfl, rfl, trivial⟩
    | some dd =>
      obtain ⟨fs, ed⟩ := hd dd rfl
      have ob : ObjOk X.prog X.w H s.heap dd (.xd fs) := I.hok dd _ ed
      obtain ⟨mA, hns, _⟩ := ob
      obtain ⟨od, ho, _⟩ := lookIn_ns hns
      exact ⟨some od, hget, hz.1, by unfold PySem.W.notCls; rw [hv] <;> rfl, by rw [hz.2]; exact ho⟩
  obtain ⟨od, J⟩ := J
  exact PySem.W.kia_one (PySem.W.sm_kit T) I.kIn J e (fun z => nomatch z) fun tk => ⟨.bl b, H, I.kept (t' := tk) fun _ _ z => z, rfl, q⟩
/-- isinstance(e, C): tb tells it by the class -/
def mIsX (i : Nat) (tb : List (Nat × Bool)) (x : Exc) : Mx D := fun sl S => match sl[i]? with
  | some none => match tb.lookup x.c with
    | some b => .ok (.bl b) S
    | none => .stuck
  | _ => .stuck
def IsAt (K : PySem.W.Frag) (C : Cfg) (cv : Value) (tb : List (Nat × Bool)) : Prop := ∀ c b, tb.lookup c = some b → ExcC K (C.ca c) ∧ PySem.W.kitOne K (.ref (C.ca c)) cv = some b
theorem sd_isx {X : Cx} {J : Jd} {Γ : List Bool} {i : Nat} {a : Addr} {oe : Obj} {cls cv : Value} {d : Option Addr} {pn : List (Addr × Obj)} {x : Exc} {y n : Str} {cvV : V} {p p2 p3 pos : Pos} (tb : List (Nat × Bool)) (hc : J.C.cau = some ⟨i, a, cls, d, x⟩) (T : IsAt X.K J.C cv tb) (hz : Zc cls d oe) (hf : ∃ vs, oe.data = .fields vs)
    (hm : X.mg "isinstance" = none) (hg : Gl X "isinstance") (hcls : PE (X.suite a ((a, oe) :: pn)) (.Name n p2) (tC cvV)) (hcv : ∀ u, RelV cvV u → u = cv)
    (hN : X.N[i]? = some y := by rfl) (hv : Vis X.env.scope y := by first | exact Or.inl rfl | exact Or.inr (Or.inl rfl) | exact Or.inr (Or.inr rfl)) (hd : (y == ("__debug__" : Str)) = false := by decide) (hcd : (y == ("__classdict__" : Str)) = false := by decide)
    (he : starEach [.Name y p3, .Name n p2] X.env = (false, eval (.Name y p3) X.env) :: starEach [.Name n p2] X.env := by rfl) (he2 : starEach [.Name n p2] X.env = (false, eval (.Name n p2) X.env) :: starEach [] X.env := by rfl) (hpl : (backTo pos (starEach [.Name n p2] X.env)).any (·.1) = false := by rfl) :
    SD (X.suite a ((a, oe) :: pn)) J Γ (.Call (.Name "isinstance" p) [.Name y p3, .Name n p2] [] pos) (mIsX i tb x) := by
  cases hl : tb.lookup x.c with
  | none =>
    refine PE.imp (sd_stuck (J := J) (Γ := Γ)) fun σ H Q q => ?_
    obtain ⟨g, sl, S, rl, p⟩ := tD_iff.mp q
    refine tD_iff.mpr ⟨g, sl, S, rl, ?_⟩
    unfold mIsX at p
    rw [hl] at p
    split at p
    · exact p
    · exact p
  | some b =>
    obtain ⟨t1, t2⟩ := T _ _ hl
    by_cases ecls : cls = .ref (J.C.ca x.c)
    · subst ecls
      refine PE.imp (pe_callB (X := X.suite a ((a, oe) :: pn)) (call_isX t1 hz hf) hg hm rfl (pa_cons (pe_var (X := X.suite a ((a, oe) :: pn)) hN hv hd hcd) (pa_cons hcls pa_nil he2) he) (by decide) (by decide) he hpl) fun σ H Q q => ?_
      obtain ⟨g, sl, S, rl, p⟩ := tD_iff.mp q
      unfold mIsX at p
      rw [hl] at p
      obtain ⟨c1, c2⟩ := rl.cau _ hc
      split at p
      · rename_i e
        have p : PD X.K J Γ σ sl g H Q (.ok (.bl b) S) := p
        refine ⟨_, c1 e, cvV, cv, b, rfl, hcv, t2, fun dd hdd => ?_, PD.now p rl (.bl b)⟩
        rcases c2.2 with ⟨_, _, z⟩ | ⟨d2, fs, z1, z2, z3⟩
        · have z : d = none := z
          rw [z] at hdd; cases hdd
        · have z1 : d = some d2 := z1
          rw [z1] at hdd; cases hdd
          exact ⟨fs, rl.sub _ _ z2⟩
      · exact False.elim p
    · refine PE.imp (sd_stuck (J := J) (Γ := Γ)) fun σ H Q q => ?_
      obtain ⟨g, sl, S, rl, p⟩ := tD_iff.mp q
      exact absurd (rl.cau _ hc).2.1 ecls
/-- the class as a value -/
theorem pe_own {X : Cx} {n : Str} {C : Addr} {p2 : Pos} (hm : X.mg n = some (.ref C)) (hg : Gl X n := by rfl) (hd : (n == ("__debug__" : Str)) = false := by decide) : PE X (.Name n p2) (tC (.ref C)) := pe_glob hg hm rfl hd
end Sm
set_option Elab.async false
set_option linter.all false
set_option maxRecDepth 100000
set_option maxHeartbeats 2000000
/-! Sim 17: calls within suites, borrowed arguments, methods of texts. -/
namespace Sm
open PySem PySem.Spec PyProof.Rows L2

/-! ### calls within a suite -/
section
variable {P : Program} {w : World} {K : PySem.W.Frag} {mg : Str → Option Value} {base : Heap} {C : Cfg} {lv fresh : Bool}
theorem fn_simH {x qual : Str} {st : Stmt} {f : Addr} {fd : FuncData} {N ps : List Str} {k : Nat} {m : Ms} {ΓX Γ' : List Bool} (hca : C.cau = none) (F : Fun K x qual st f fd) (Sc : FnScope N ps (defScope st))
    (hb : ∀ (cdv : Value) (A : Around) (outer : List Env) (s : Shared) (H : Hp) (E : XK) (p : Addr × Obj), L2H.Hot1 A p → L2H.RoomH k (A.deeper (envOfC qual (defScope st) s.heap.objs.size f cdv)) →
      SSs (L2H.cxH (L2N.CX P w) P w K mg base N qual (defScope st) f cdv A outer s H E p) ⟨⟨C, fun cls d _ H => E cls d H, lv⟩, ΓX, [], fresh⟩ (List.replicate N.length false) Γ' (defBody st) m) :
    L2H.FnH P w K mg base (L2N.CX P w) (k + 1) f fd ps (spF K C lv fresh (mFn ps.length N.length fresh m)) := by
  obtain ⟨oc, od, kV, doc, pm, an, cdv, ct, osl, rfl, lk, hcd⟩ := F.ex
  refine L2H.fn_ofH lk hcd Sc (fun vs H Q E h => ?_) fun A outer s H vs Q E p hot hr h => ?_
  · obtain ⟨g, ds, S, hn, hs, hd, q⟩ := h
    have z := (end_run (B := ⟨⟨C, fun cls d _ H => E cls d H, lv⟩, ΓX, [], fresh⟩) (Γ' := Γ') hn rfl q).1
    rw [← hd.length]; exact z
  · obtain ⟨g, ds, S, hn, hs, hd, q⟩ := h
    refine ⟨_, hb cdv A outer s H E p hot hr, ?_⟩
    exact tSt_iff.mpr ⟨g, _, S, start_rel hca hs hd, (end_run (B := ⟨⟨C, fun cls d _ H => E cls d H, lv⟩, ΓX, [], fresh⟩) hn rfl q).2⟩
end
section
variable {X : Cx} {J : Jd} {Γ : List Bool} {k : Nat} {f : Addr} {fd : FuncData} {ps : List Str} {x : Str} {p pos : Pos} {e : Expr} {es : List Expr} {Fm : Fn} {ma : Mx (List D)} {lv : Bool}
theorem sd_callH (F : L2H.FnH X.prog X.w X.K X.mg X.base (L2N.CX X.prog X.w) k f fd ps (spF X.K J.C lv false Fm)) (hx : Lets X J.W) (hr : L2H.RoomH k X.A) (hot : L2H.HotC X) (hm : X.mg x = some (.ref f)) (hk : PySem.W.keepIn X.K (.ref f) = true) (hb : Binds X.K fd ps []) (ha : SDs X J Γ (e :: es) ma)
    (hlv : lv = true → J.lv = true := by first | exact fun h => h | exact fun _ => rfl | exact fun h => Bool.noConfusion h) (hg : Gl X x := by rfl) (hdb : (x == ("__debug__" : Str)) = false := by decide) (he : starEach (e :: es) X.env = (false, eval e X.env) :: starEach es X.env := by rfl) (hpl : (backTo pos (starEach es X.env)).any (·.1) = false := by rfl) :
    SD X J Γ (.Call (.Name x p) (e :: es) [] pos) (mCall Fm ma) := PE.imp (L2H.pe_callH F hr hot hg hm hk hb hx ha hdb he hpl) fun σ H Q q => by
  obtain ⟨g, sl, S, rl, p⟩ := tD_iff.mp q
  exact chDs postD rl p fun g1 H1 ds S1 vs st1 r1 b1 p1 => spF_D hlv r1 b1 p1
/-- a suite's context bears the exception -/
theorem hot_suite {X : Cx} {a : Addr} {oe : Obj} {cls : Value} {d : Option Addr} {pn : List (Addr × Obj)} (hz : L2N.Zn cls d oe) (hf : ∃ vs, oe.data = .fields vs) : L2H.HotC (X.suite a ((a, oe) :: pn)) := by
  obtain ⟨vs, hv⟩ := hf
  exact ⟨(a, oe), ⟨rfl, vs, hv, hz.2.2 vs hv⟩, List.mem_cons_self⟩
theorem room_suite {X : Cx} {a : Addr} {pn : List (Addr × Obj)} (hr : Room k X.A) : L2H.RoomH k (X.suite a pn).A := ⟨hr.dp, hr.un⟩
theorem hot_cxH {CX : CXT} {P : Program} {w : World} {K : PySem.W.Frag} {mg : Str → Option Value} {base : Heap} {N : List Str} {qual : Str} {scope : Scope} {f : Addr} {cd : Value} {A : Around} {outer : List Env} {s : Shared} {H : Hp} {E : XK} {p : Addr × Obj} (h : L2H.Hot1 A p) : L2H.HotC (L2H.cxH CX P w K mg base N qual scope f cd A outer s H E p) :=
  ⟨p, h, List.mem_cons_self⟩
end

/-! ### borrowed arguments: the callee reads them, and gives no object back -/
def atomD : D → Bool
  | .non | .bl _ | .int _ | .str _ => true
  | _ => false
def mCallV (F : Fn) (ma : Mx (List D)) : Mx D := bindX ma fun ds _ S => match F ds S with
  | .ok d _ => if atomD d = true then .ok d S else .stuck
  | _ => .stuck
def RepV (K : PySem.W.Frag) (C : Cfg) (g : Gh) (H : Hp) (d : D) (v : V) : Prop := Rep K C g.G g.ρ d v ∨ ∃ p i, v = .ref p ∧ g.own p = some (.slot i) ∧ Cell K C g H p d
inductive RepVs (K : PySem.W.Frag) (C : Cfg) (g : Gh) (H : Hp) : List D → List V → Prop
  | nil : RepVs K C g H [] []
  | cons {d : D} {v : V} {ds : List D} {vs : List V} : RepV K C g H d v → RepVs K C g H ds vs → RepVs K C g H (d :: ds) (v :: vs)
def PVs (K : PySem.W.Frag) (J : Jd) (Γ : List Bool) (σ : L2.St) (sl : List (Option D)) (g : Gh) (H : Hp) (Q : List V → Hp → Prop) : Rx (List D) → Prop
  | .ok d S' => ∀ g' H' v, Stp (cE J.lv) g H g' H' → Rel K J.C Γ g' sl S' σ H' → RepVs K J.C g' H' d v → Q v H'
  | .err x S' => PErr K J Γ σ sl g H x S'
  | .stuck => False
def tVs (K : PySem.W.Frag) (J : Jd) (Γ : List Bool) (m : Mx (List D)) : TA := fun σ H Q => ∃ g sl S, Rel K J.C Γ g sl S σ H ∧ PVs K J Γ σ sl g H Q (m sl S)
def SVs (X : Cx) (J : Jd) (Γ : List Bool) (es : List Expr) (m : Mx (List D)) : Prop := PA X es (tVs X.K J Γ m)
section
variable {K : PySem.W.Frag} {J : Jd} {Γ : List Bool} {σ : L2.St} {sl : List (Option D)} {g g' : Gh} {H H' : Hp} {S : Sto}
theorem RepV.step {lv : Bool} {C : Cfg} {d : D} {v : V} (h : RepV K C g H d v) (st : Stp (cE lv) g H g' H') : RepV K C g' H' d v := by
  rcases h with h | ⟨p, i, rfl, h1, h2⟩
  · exact .inl (h.step st)
  · exact .inr ⟨p, i, rfl, st.ow p _ h1 rfl, h2.step st h1 rfl⟩
theorem PVs.step {g1 : Gh} {H1 : Hp} {Q : List V → Hp → Prop} {r : Rx (List D)} (st : Stp (cE J.lv) g H g1 H1) (h : PVs K J Γ σ sl g H Q r) : PVs K J Γ σ sl g1 H1 Q r := by
  cases r with
  | ok d S' => exact fun g' H' v s r e => h g' H' v (st.trans s) r e
  | err x S' => exact PErr.step st h
  | stuck => exact h
theorem postVs {Q : List V → Hp → Prop} : Post K J Γ σ sl (fun g H r => PVs K J Γ σ sl g H Q r) := ⟨fun _ _ _ _ h => h, fun _ _ h => h, fun _ _ _ _ _ s h => PVs.step s h⟩
theorem chVs {β : Type} {P : Gh → Hp → Rx β → Prop} {m : Mx (List D)} {f : List D → Mx β} {R : List V → Hp → Prop} (hP : Post K J Γ σ sl P) (r : Rel K J.C Γ g sl S σ H) (h : P g H (bindX m f sl S))
    (k : ∀ g1 H1 d S1 x, Stp (cE J.lv) g H g1 H1 → Rel K J.C Γ g1 sl S1 σ H1 → RepVs K J.C g1 H1 d x → P g1 H1 (f d sl S1) → R x H1) : tVs K J Γ m σ H R := by
  refine ⟨g, sl, S, r, ?_⟩
  unfold bindX at h
  cases e : m sl S with
  | ok d S' => rw [e] at h; exact fun g' H' v s r' b => k g' H' d S' v s r' b (hP.step _ _ _ _ _ s h)
  | err x S' => rw [e] at h; exact hP.err _ _ _ _ h
  | stuck => rw [e] at h; exact hP.stuck _ _ h
/-- the frame's own lists, frozen for the callee -/
theorem frz_reps {ds : List D} {vs : List V} (r : Rel K J.C Γ g sl S σ H) (h : RepVs K J.C g H ds vs) : Reps K J.C (g.let H []).G (g.let H []).ρ ds vs := by
  induction h with
  | nil => exact .nil
  | cons h _ ih =>
    refine .cons ?_ ih
    rcases h with h | ⟨p, i, rfl, h1, h2⟩
    · exact h.mono (let_G r.sto) fun _ _ z => z
    · refine cell_rep (h2.mono rfl (let_G r.sto) fun _ _ z => z) ?_
      show (match g.own p with | some (.slot i) => if ([] : List Bool).getD i false = true then g.G p else H p | _ => g.G p) = H p
      rw [h1]
      simp
theorem callV_run {Q : VK} {E : XK} {Fm : Fn} {ds : List D} {vs : List V} (rl : Rel K J.C Γ g sl S σ H) (b : RepVs K J.C g H ds vs) (p : PD K J Γ σ sl g H Q (match Fm ds S with | .ok d _ => if atomD d = true then .ok d S else .stuck | _ => .stuck)) : spF K J.C false false Fm vs H Q E := by
  refine ⟨g.let H [], ds, S, fun a i h => by have := (let_own h).2 i rfl; simp at this, let_sto rl.sto, frz_reps rl b, ?_⟩
  cases e : Fm ds S with
  | err x S' => rw [e] at p; exact False.elim p
  | stuck => rw [e] at p; exact False.elim p
  | ok d S' =>
    rw [e] at p
    intro g' H' v ns st so re _
    unfold RepY at re
    rw [if_neg Bool.false_ne_true] at re
    have p : PD K J Γ σ sl g H Q (if atomD d = true then .ok d S else .stuck) := p
    by_cases ha : atomD d = true
    · rw [if_pos ha] at p
      have keep : ∀ a o, H a = some o → H' a = some o := fun a o h => st.fr a o h fun w _ => by cases w <;> rfl
      have gone : ∀ a, H' a = none → H a = none := fun a h => by
        cases e2 : H a with
        | none => rfl
        | some o => rw [keep a o e2] at h; cases h
      have st2 : Stp (cE J.lv) g H g H' := ⟨Same.refl _, fun a o h _ => keep a o h, gone, fun _ _ h _ => h, fun _ _ h => .inl h, fun _ _ h => .inl h, fun _ _ h => h⟩
      have eqH : ∀ a, H a ≠ none → H' a = H a := fun a h => by
        cases e2 : H a with
        | none => exact absurd e2 h
        | some o => exact keep a o e2
      have so2 : StoOk K J.C g H' S := sto_keep rl.sto (fun a o h => keep a o (rl.sto.sub a o h)) rfl (Same.refl _) (fun a w h => ⟨(rl.sto.fro a w h).1, by rw [eqH a (rl.sto.fro a w h).2]; exact (rl.sto.fro a w h).2⟩) fun a w h _ => ⟨h, eqH a (rl.sto.fro a w h).2⟩
      refine p g H' v st2 (rl.step st2 so2) ?_
      cases re <;> first | exact .non | exact .bl _ | exact .int _ | exact .str _ | cases ha
    · rw [if_neg ha] at p; exact False.elim p
end
section
variable {X : Cx} {J : Jd} {Γ : List Bool} {k : Nat} {f : Addr} {fd : FuncData} {ps : List Str} {x y : Str} {p p2 pos : Pos} {e : Expr} {es : List Expr} {Fm : Fn} {me : Mx D} {ma : Mx (List D)} {lv : Bool}
theorem svs_nil : SVs X J Γ [] mNil := PA.imp pa_nil fun σ H Q q => by
  obtain ⟨g, sl, S, r, p⟩ := q
  exact p g H [] Stp.refl r .nil
theorem svs_cons (he : SD X J Γ e me) (hr : SVs X J Γ es ma) (hs : starEach (e :: es) X.env = (false, eval e X.env) :: starEach es X.env := by rfl) : SVs X J Γ (e :: es) (mCons me ma) := PA.imp (pa_cons he hr hs) fun σ H Q q => by
  obtain ⟨g, sl, S, rl, p⟩ := q
  refine chD postVs rl p fun g1 H1 d S1 x st1 r1 b1 p1 => ?_
  refine chVs postVs r1 p1 fun g2 H2 ds S2 xs st2 r2 b2 p2 => ?_
  exact p2 g2 H2 (x :: xs) Stp.refl r2 (.cons (.inl (b1.step st2)) b2)
/-- the frame's own list, lent -/
theorem svs_own (i : Nat) (hr : SVs X J Γ es ma) (hΓ : Γ.getD i false = true := by rfl) (hN : X.N[i]? = some x := by rfl) (hv : Vis X.env.scope x := by first | exact Or.inl rfl | exact Or.inr (Or.inl rfl) | exact Or.inr (Or.inr rfl)) (hd : (x == ("__debug__" : Str)) = false := by decide)
    (hcd : (x == ("__classdict__" : Str)) = false := by decide) (hs : starEach (.Name x p :: es) X.env = (false, eval (.Name x p) X.env) :: starEach es X.env := by rfl) : SVs X J Γ (.Name x p :: es) (mCons (mVar i) ma) := PA.imp (pa_cons (pe_var hN hv hd hcd) hr hs) fun σ H Q q => by
  obtain ⟨g, sl, S, rl, p⟩ := q
  have p : PVs X.K J Γ σ sl g H Q (bindX (mVar i) (fun d => bindX ma fun ds => pureX (d :: ds)) sl S) := p
  cases e : sl[i]? with
  | none => simp only [bindX, mVar, e] at p; exact False.elim p
  | some od =>
    cases od with
    | none => simp only [bindX, mVar, e] at p; exact False.elim p
    | some d =>
      have p : PVs X.K J Γ σ sl g H Q (bindX ma (fun ds => pureX (d :: ds)) sl S) := by
        simp only [bindX, mVar, e] at p ⊢; exact p
      obtain ⟨a, h1, h2, h3⟩ := rl.slO i d e hΓ
      refine ⟨.ref a, h1, chVs postVs rl p fun g2 H2 ds S2 xs st2 r2 b2 p2 => ?_⟩
      exact p2 g2 H2 (.ref a :: xs) Stp.refl r2 (.cons (.inr ⟨a, i, rfl, st2.ow a _ h2 rfl, h3.step st2 h2 rfl⟩) b2)
theorem sd_callV (F : FnOk X.prog X.w X.K X.mg X.base (L2N.CX X.prog X.w) k f fd ps (spF X.K J.C false false Fm)) (hx : Lets X J.W) (hr : Room k X.A) (hm : X.mg x = some (.ref f)) (hk : PySem.W.keepIn X.K (.ref f) = true) (hb : Binds X.K fd ps []) (ha : SVs X J Γ (e :: es) ma)
    (hg : Gl X x := by rfl) (hdb : (x == ("__debug__" : Str)) = false := by decide) (he : starEach (e :: es) X.env = (false, eval e X.env) :: starEach es X.env := by rfl) (hpl : (backTo pos (starEach es X.env)).any (·.1) = false := by rfl) :
    SD X J Γ (.Call (.Name x p) (e :: es) [] pos) (mCallV Fm ma) := PE.imp (call_pe F hx hr hm hk hb ha hg hdb he hpl) fun σ H Q q => by
  obtain ⟨g, sl, S, rl, p⟩ := tD_iff.mp q
  exact chVs postD rl p fun g1 H1 ds S1 vs st1 r1 b1 p1 => callV_run r1 b1 p1
end

/-! ### methods of texts -/
def mM1 (f : Str → D → Option D) (mo me : Mx D) : Mx D := bindX mo fun o => match o with
  | .str a => bindX me fun y => ofO (f a y)
  | _ => fun _ _ => .stuck
def fJoin (a : Str) (d : D) : Option D := match d with
  | .lst ds => (toStrs ds).bind fun ys => if (ys.map (·.length)).sum + ys.length * a.length ≤ 16777216 then some (.str (Txt.join a ys)) else none
  | .tup ds => (toStrs ds).bind fun ys => if (ys.map (·.length)).sum + ys.length * a.length ≤ 16777216 then some (.str (Txt.join a ys)) else none
  | _ => none
def fIndex (a : Str) (d : D) : Option D := match d with
  | .str b => match Builtin.Str.occurrences a b 0 a.length 1 with
    | i :: _ => some (.int (i : Nat))
    | [] => none
  | _ => none
section
variable {X : Cx} {J : Jd} {Γ : List Bool} {o e : Expr} {mo me : Mx D} {apos pos : Pos}
theorem m1_run {r : V → List V → Hp → VK → Prop} {f : Str → D → Option D} (hf : ∀ (σ : L2.St) (sl : List (Option D)) (g : Gh) (H : Hp) (S : Sto) (Q : VK) (a : Str) (d z : D) (y : V), f a d = some z → Rel X.K J.C Γ g sl S σ H → RepB X.K J g H d y → PD X.K J Γ σ sl g H Q (.ok z S) → r (.str a) [y] H Q) {σ : L2.St} {H : Hp} {Q : VK} (q : tD X.K J Γ (mM1 f mo me) σ H Q) : tM1 r (tBo X.K J Γ mo) (tBo X.K J Γ me) σ H Q := by
  obtain ⟨g, sl, S, rl, p⟩ := tD_iff.mp q
  refine chB postD rl p fun g1 H1 d S1 x st1 r1 b1 p1 => ?_
  cases d <;> first | exact False.elim p1 | skip
  rename_i a
  cases b1.str
  refine ⟨⟨a, rfl⟩, ?_⟩
  refine chB postD r1 p1 fun g2 H2 e S2 y st2 r2 b2 p2 => ?_
  obtain ⟨z, hz, p3⟩ := ofO_of postD p2
  exact hf σ sl g2 H2 S2 Q a e z y hz r2 b2 p3
theorem sd_join (ho : SB X J Γ o mo) (he : SB X J Γ e me) (hs : starEach [e] X.env = [(false, eval e X.env)] := by rfl) (hbase : attributeBase o "join" X.env (eval o X.env) = eval o X.env := by rfl) (hline : (apos.endLine == pos.line) = true := by rfl) :
    SD X J Γ (.Call (.Attribute o "join" apos) [e] [] pos) (mM1 fJoin mo me) := PE.imp (pe_join ho he hs hbase hline) fun σ H Q q => m1_run (fun σ sl g H S Q a d z y hf rl b p => by
  unfold fJoin at hf
  split at hf
  · rename_i ds
    obtain ⟨ys, h1, h2⟩ := Option.bind_eq_some_iff.mp hf
    split at h2
    · rename_i hz
      cases h2
      obtain ⟨pp, vs, rfl, sq, r⟩ := b.lst rl.sub
      have hv := reps_strs h1 r
      subst hv
      exact ⟨a, pp, ys, rfl, rfl, .inl sq, hz, PD.now p rl (.str _)⟩
    · cases h2
  · rename_i ds
    obtain ⟨ys, h1, h2⟩ := Option.bind_eq_some_iff.mp hf
    split at h2
    · rename_i hz
      cases h2
      obtain ⟨pp, vs, rfl, sq, r⟩ := b.tup rl.sub
      have hv := reps_strs h1 r
      subst hv
      exact ⟨a, pp, ys, rfl, rfl, .inr sq, hz, PD.now p rl (.str _)⟩
    · cases h2
  · cases hf) q
theorem sd_sindex (ho : SB X J Γ o mo) (he : SB X J Γ e me) (hs : starEach [e] X.env = [(false, eval e X.env)] := by rfl) (hbase : attributeBase o "index" X.env (eval o X.env) = eval o X.env := by rfl) (hline : (apos.endLine == pos.line) = true := by rfl) :
    SD X J Γ (.Call (.Attribute o "index" apos) [e] [] pos) (mM1 fIndex mo me) := PE.imp (pe_m1 F.slot_str_index F.type_str_index mt_sindex ho he hs hbase hline) fun σ H Q q => m1_run (fun σ sl g H S Q a d z y hf rl b p => by
  unfold fIndex at hf
  split at hf
  · rename_i b'
    split at hf
    · rename_i i rest hi
      cases hf
      cases b.str
      exact ⟨a, b', i, rest, rfl, rfl, hi, PD.now p rl (.int _)⟩
    · cases hf
  · cases hf) q
end
end Sm
set_option Elab.async false
set_option linter.all false
set_option maxRecDepth 100000
set_option maxHeartbeats 2000000
/-! Sim 18: defs by name, the end. -/
namespace Sm
open PySem PySem.Spec PyProof.Rows L2

section
variable (P : Program) (w : World) (K : PySem.W.Frag) (mg : Str → Option Value) (base : Heap)
/-- the def x of the top keeps its promise -/
structure Has (x : Str) (C : Cfg) (k : Nat) (lv fresh : Bool) (ps : List Str) (F : Fn) : Prop where
  ex : ∃ (f : Addr) (fd : FuncData), mg x = some (.ref f) ∧ PySem.W.keepIn K (.ref f) = true ∧ Binds K fd ps [] ∧ FnOk P w K mg base (L2N.CX P w) k f fd ps (spF K C lv fresh F)
structure HasH (x : Str) (C : Cfg) (k : Nat) (lv : Bool) (ps : List Str) (F : Fn) : Prop where
  ex : ∃ (f : Addr) (fd : FuncData), mg x = some (.ref f) ∧ PySem.W.keepIn K (.ref f) = true ∧ Binds K fd ps [] ∧ L2H.FnH P w K mg base (L2N.CX P w) k f fd ps (spF K C lv false F)
/-- the method m of the class c -/
structure HasM (c : Nat) (m : Str) (C : Cfg) (k : Nat) (lv fresh : Bool) (ps : List Str) (F : Fn) : Prop where
  ex : ∃ (f : Addr) (fd : FuncData), MethAt K C c m f ∧ Binds K fd ps [] ∧ FnOk P w K mg base (L2N.CX P w) k f fd ps (spF K C lv fresh F)
structure HasMK (c : Nat) (m : Str) (C : Cfg) (k : Nat) (lv fresh : Bool) (ps ks : List Str) (perm : List Nat) (F : Fn) : Prop where
  ex : ∃ (f : Addr) (fd : FuncData), MethAt K C c m f ∧ KB K fd ps ks 1 perm ∧ FnOk P w K mg base (L2N.CX P w) k f fd ps (spF K C lv fresh F)
/-- the class x, which is c -/
structure HasC (x : Str) (c : Nat) (C : Cfg) (k : Nat) (lv : Bool) (ps : List Str) (F : Fn) : Prop where
  ex : ∃ (f : Addr) (fd : FuncData), mg x = some (.ref (C.ca c)) ∧ Mk K (C.ca c) f ∧ Binds K fd ps [] ∧ FnOk P w K mg base (L2N.CX P w) k f fd ps (spF K C lv false F)
structure HasCK (x : Str) (c : Nat) (C : Cfg) (k : Nat) (lv : Bool) (ps ks : List Str) (perm : List Nat) (F : Fn) : Prop where
  ex : ∃ (f : Addr) (fd : FuncData), mg x = some (.ref (C.ca c)) ∧ Mk K (C.ca c) f ∧ KB K fd ps ks 1 perm ∧ FnOk P w K mg base (L2N.CX P w) k f fd ps (spF K C lv false F)
end
section
variable {X : Cx} {J : Jd} {Γ : List Bool} {k j c nf : Nat} {ps ks : List Str} {perm : List Nat} {x m : Str} {p pos apos : Pos} {e o : Expr} {es : List Expr} {kws : List Keyword} {Fm : Fn} {ma : Mx (List D)} {mo : Mx D} {lv : Bool}
theorem sd_fn (h : Has X.prog X.w X.K X.mg X.base x J.C k lv false ps Fm) (hx : Lets X J.W) (hr : Room j X.A) (ha : SDs X J Γ (e :: es) ma) (hkj : k ≤ j := by first | decide | omega) (hlv : lv = true → J.lv = true := by first | exact fun h => h | exact fun _ => rfl | exact fun h => Bool.noConfusion h) (hg : Gl X x := by rfl) (hdb : (x == ("__debug__" : Str)) = false := by decide)
    (he : starEach (e :: es) X.env = (false, eval e X.env) :: starEach es X.env := by rfl) (hpl : (backTo pos (starEach es X.env)).any (·.1) = false := by rfl) : SD X J Γ (.Call (.Name x p) (e :: es) [] pos) (mCall Fm ma) := by
  obtain ⟨f, fd, h1, h2, h3, h4⟩ := h.ex
  exact sd_call h4 hx (hr.mono hkj) h1 h2 h3 ha hlv hg hdb he hpl
theorem sn_fn (h : Has X.prog X.w X.K X.mg X.base x J.C k lv true ps Fm) (hx : Lets X J.W) (hr : Room j X.A) (ha : SDs X J Γ (e :: es) ma) (hkj : k ≤ j := by first | decide | omega) (hlv : lv = true → J.lv = true := by first | exact fun h => h | exact fun _ => rfl | exact fun h => Bool.noConfusion h) (hg : Gl X x := by rfl) (hdb : (x == ("__debug__" : Str)) = false := by decide)
    (he : starEach (e :: es) X.env = (false, eval e X.env) :: starEach es X.env := by rfl) (hpl : (backTo pos (starEach es X.env)).any (·.1) = false := by rfl) : SN X J Γ (.Call (.Name x p) (e :: es) [] pos) (mCall Fm ma) := by
  obtain ⟨f, fd, h1, h2, h3, h4⟩ := h.ex
  exact sn_call h4 hx (hr.mono hkj) h1 h2 h3 ha hlv hg hdb he hpl
theorem sd_fnV (h : Has X.prog X.w X.K X.mg X.base x J.C k false false ps Fm) (hx : Lets X J.W) (hr : Room j X.A) (ha : SVs X J Γ (e :: es) ma) (hkj : k ≤ j := by first | decide | omega) (hg : Gl X x := by rfl) (hdb : (x == ("__debug__" : Str)) = false := by decide)
    (he : starEach (e :: es) X.env = (false, eval e X.env) :: starEach es X.env := by rfl) (hpl : (backTo pos (starEach es X.env)).any (·.1) = false := by rfl) : SD X J Γ (.Call (.Name x p) (e :: es) [] pos) (mCallV Fm ma) := by
  obtain ⟨f, fd, h1, h2, h3, h4⟩ := h.ex
  exact sd_callV h4 hx (hr.mono hkj) h1 h2 h3 ha hg hdb he hpl
theorem sd_fnH (h : HasH X.prog X.w X.K X.mg X.base x J.C k lv ps Fm) (hx : Lets X J.W) (hr : L2H.RoomH j X.A) (hot : L2H.HotC X) (ha : SDs X J Γ (e :: es) ma) (hkj : k ≤ j := by first | decide | omega) (hlv : lv = true → J.lv = true := by first | exact fun h => h | exact fun _ => rfl | exact fun h => Bool.noConfusion h) (hg : Gl X x := by rfl) (hdb : (x == ("__debug__" : Str)) = false := by decide)
    (he : starEach (e :: es) X.env = (false, eval e X.env) :: starEach es X.env := by rfl) (hpl : (backTo pos (starEach es X.env)).any (·.1) = false := by rfl) : SD X J Γ (.Call (.Name x p) (e :: es) [] pos) (mCall Fm ma) := by
  obtain ⟨f, fd, h1, h2, h3, h4⟩ := h.ex
  exact sd_callH h4 hx (hr.mono hkj) hot h1 h2 h3 ha hlv hg hdb he hpl
theorem mok {fresh : Bool} (h : HasM X.prog X.w X.K X.mg X.base c m J.C k lv fresh ps Fm) (hr : Room j X.A) (hkj : k ≤ j := by first | decide | omega) (hlv : lv = true → J.lv = true := by first | exact fun h => h | exact fun _ => rfl | exact fun h => Bool.noConfusion h) : ∀ c' F', [(c, Fm)].lookup c' = some F' → MOk X J fresh m c' F' := fun c' F' q => by
  by_cases z : c' = c
  · subst z
    simp [List.lookup] at q
    subst q
    obtain ⟨f, fd, h1, h2, h3⟩ := h.ex
    exact ⟨k, f, fd, ps, lv, h1, h3, hr.mono hkj, h2, hlv⟩
  · have e : (c' == c) = false := by simpa using z
    simp [List.lookup, e] at q
theorem mokK {fresh : Bool} (h : HasMK X.prog X.w X.K X.mg X.base c m J.C k lv fresh ps ks perm Fm) (hr : Room j X.A) (hkj : k ≤ j := by first | decide | omega) (hlv : lv = true → J.lv = true := by first | exact fun h => h | exact fun _ => rfl | exact fun h => Bool.noConfusion h) : ∀ c' F', [(c, Fm)].lookup c' = some F' → MOkK X J fresh m ks perm c' F' := fun c' F' q => by
  by_cases z : c' = c
  · subst z
    simp [List.lookup] at q
    subst q
    obtain ⟨f, fd, h1, h2, h3⟩ := h.ex
    exact ⟨k, f, fd, ps, lv, h1, h3, hr.mono hkj, h2, hlv⟩
  · have e : (c' == c) = false := by simpa using z
    simp [List.lookup, e] at q
theorem sd_new (h : HasC X.prog X.w X.K X.mg X.base x c J.C k lv ps Fm) (hx : Lets X J.W) (hr : Room j X.A) (ha : SDs X J Γ (e :: es) ma) (hkj : k + 1 ≤ j := by first | decide | omega) (hl : J.lv = true := by rfl) (hnf : nf = (J.C.fl c).length := by rfl) (hg : Gl X x := by rfl) (hdb : (x == ("__debug__" : Str)) = false := by decide)
    (he : starEach (e :: es) X.env = (false, eval e X.env) :: starEach es X.env := by rfl) (hpl : (backTo pos (starEach es X.env)).any (·.1) = false := by rfl) : SD X J Γ (.Call (.Name x p) (e :: es) [] pos) (mMk c nf Fm ma) := by
  obtain ⟨f, fd, h1, h2, h3, h4⟩ := h.ex
  exact sd_mk h2 h4 hx (hr.mono hkj) h1 h3 ha hl hnf hg hdb he hpl
theorem sd_new0 (h : HasC X.prog X.w X.K X.mg X.base x c J.C k lv ps Fm) (hx : Lets X J.W) (hr : Room j X.A) (hkj : k + 1 ≤ j := by first | decide | omega) (hl : J.lv = true := by rfl) (hnf : nf = (J.C.fl c).length := by rfl) (hg : Gl X x := by rfl) (hdb : (x == ("__debug__" : Str)) = false := by decide) :
    SD X J Γ (.Call (.Name x p) [] [] pos) (mMk c nf Fm mNil) := by
  obtain ⟨f, fd, h1, h2, h3, h4⟩ := h.ex
  exact sd_mk0 h2 h4 hx (hr.mono hkj) h1 h3 hl hnf hg hdb
theorem sd_newK (ks : List Str) (perm : List Nat) (h : HasCK X.prog X.w X.K X.mg X.base x c J.C k lv ps ks perm Fm) (hx : Lets X J.W) (hr : Room j X.A) (hkw : SKs X J Γ kws ma) (hkj : k + 1 ≤ j := by first | decide | omega) (hl : J.lv = true := by rfl) (hnf : nf = (J.C.fl c).length := by rfl) (hg : Gl X x := by rfl) (hdb : (x == ("__debug__" : Str)) = false := by decide)
    (hall : (backToKw pos (keywordEach kws X.env)).all (·.1.isSome) = true := by rfl) (hks : (backToKw pos (keywordEach kws X.env)).filterMap (·.1) = ks := by rfl)
    (hpl : ((backTo pos (starEach [] X.env)).any (·.1) || (backToKw pos (keywordEach kws X.env)).any (·.1.isNone)) = false := by rfl) : SD X J Γ (.Call (.Name x p) [] kws pos) (mMk c nf Fm (mPerm ks.length perm ma)) := by
  obtain ⟨f, fd, h1, h2, h3, h4⟩ := h.ex
  exact sd_mkK ks perm h2 h4 hx (hr.mono hkj) h1 h3 hkw hl hnf hg hdb hall hks hpl
/-- a def that is never asked -/
theorem fn_stuck {P : Program} {w : World} {K : PySem.W.Frag} {mg : Str → Option Value} {base : Heap} {CX : CXT} {f : Addr} {fd : FuncData} {C : Cfg} {fresh : Bool} : FnOk P w K mg base CX k f fd ps (spF K C lv fresh fun _ _ => .stuck) :=
  ⟨fun vs H Q E ⟨_, _, _, _, _, _, h⟩ => h.elim, fun A outer s H args us vs Q E _ _ _ _ ⟨_, _, _, _, _, _, h⟩ => h.elim⟩
theorem st_lv {J' : Jd} {mt : Mx Bool} (hC : J'.C = J.C) (hW : J'.W = J.W) (hl : J'.lv = false) (h : ST X J' Γ e mt) : ST X J Γ e mt := by
  obtain ⟨C, W, lv⟩ := J
  obtain ⟨C', W', lv'⟩ := J'
  cases hC; cases hW; cases hl
  exact PT.imp h fun σ H Q q => by
    obtain ⟨g, sl, S, rl, p⟩ := tDb_iff.mp q
    refine tDb_iff.mpr ⟨g, sl, S, rl, ?_⟩
    cases e : mt sl S with
    | stuck => rw [e] at p; exact p
    | ok b S' => rw [e] at p; exact fun g' H' st r => p g' H' st.toA r
    | err x S' => rw [e] at p; exact fun g' H' cls dx st r rx => p g' H' cls dx st.toA r rx
end

/-! ### tables of facts -/
theorem okT_nil {K : PySem.W.Frag} {C : Cfg} {cv : Value} : OkT K C cv [] := fun i b h => by cases h
theorem okT_cons {K : PySem.W.Frag} {C : Cfg} {cv : Value} {r : List (Nat × Bool)} {i : Nat} {b : Bool} (h : PySem.W.exmOne K (.ref (C.ca i)) cv = some b) (hr : OkT K C cv r) : OkT K C cv ((i, b) :: r) := fun j b' q => by
  by_cases z : j = i
  · subst z
    simp [List.lookup] at q
    subst q; exact h
  · have e : (j == i) = false := by simpa using z
    simp only [List.lookup, e] at q
    exact hr j b' q
theorem isAt_nil {K : PySem.W.Frag} {C : Cfg} {cv : Value} : IsAt K C cv [] := fun i b h => by cases h
theorem isAt_cons {K : PySem.W.Frag} {C : Cfg} {cv : Value} {r : List (Nat × Bool)} {i : Nat} {b : Bool} (h : ExcC K (C.ca i)) (h2 : PySem.W.kitOne K (.ref (C.ca i)) cv = some b) (hr : IsAt K C cv r) : IsAt K C cv ((i, b) :: r) := fun j b' q => by
  by_cases z : j = i
  · subst z
    simp [List.lookup] at q
    subst q; exact ⟨h, h2⟩
  · have e : (j == i) = false := by simpa using z
    simp only [List.lookup, e] at q
    exact hr j b' q
theorem xfAt_nil {K : PySem.W.Frag} {C : Cfg} {f : Str} : XfAt K C f [] := ⟨fun c k h => by cases h⟩
theorem xfAt_cons {K : PySem.W.Frag} {C : Cfg} {f : Str} {r : List (Nat × Nat)} {i n : Nat} (h1 : (C.xl i)[n]? = some f) (h2 : XfC K (C.ca i)) (h3 : PySem.W.findIn K (.ref (C.ca i)) f = some none) (hr : XfAt K C f r) : XfAt K C f ((i, n) :: r) := ⟨fun j b' q => by
  by_cases z : j = i
  · subst z
    simp [List.lookup] at q
    subst q; exact ⟨h1, h2, h3⟩
  · have e : (j == i) = false := by simpa using z
    simp only [List.lookup, e] at q
    exact hr.at_ j b' q⟩

/-! ### the end -/
/-- nothing is in the store when the law is called: the script is a frozen list of ints -/
theorem law_sp {K : PySem.W.Frag} {C : Cfg} {lv : Bool} {F : Fn} {H : Hp} {a : Addr} {ns : List Int} (hO : Only H) (hS : SqL K H a (ns.map V.int)) (h : ∃ S', F [.lst (ns.map D.int)] [] = .ok (.bl true) S') : spF K C lv false F [.ref a] H (fun v _ => v = .bl true) fun _ _ _ => False := by
  obtain ⟨S', e⟩ := h
  refine ⟨⟨H, [], fun _ => none⟩, [.lst (ns.map D.int)], [], (fun _ _ z => nomatch z), ⟨Same.refl _, (fun _ _ z => nomatch z), rfl, (fun i ob z => by simp at z)⟩, .cons (.lst hS ?_) .nil, ?_⟩
  · clear hS e
    induction ns with
    | nil => exact .nil
    | cons i r ih => exact .cons (.int i) ih
  · rw [e]
    intro g' H' v _ _ _ re _
    unfold RepY at re
    rw [if_neg Bool.false_ne_true] at re
    cases re
    rfl
theorem walk_sim {l : PySem.W.OpenLaw} {n k : Nat} {q : Program} {loose : List Str} {YP : World → Heap → Prop} {d : DefRec} {K : Params → PySem.W.Frag} {x : Str} {F : Fn} {lvs : List (Str × PySem.W.WData)}
    (hn : l.most = some n) (hn2 : n ≤ sizeLine) (hdf : d.params.defaults = []) (hr : Room k callerA) (hY : ∀ (w : World) (h : Heap), YP w h → (K w.params).In h)
    (hF : ∀ (w : World) (mg : Str → Option Value) (fa : Addr) (h : Heap), (K w.params).In h → h.Ns mainGlobals mg → PySem.W.LooseAre lvs mg h → mg d.name = some (.ref fa) → ∃ (C : Cfg) (lv : Bool) (fd : FuncData), (∀ (s : Shared) (u : Value), BindsTo s fd ⟨[u], []⟩ [(x, u)]) ∧
      ∀ base : Heap, (K w.params).In base → base.Ns mainGlobals mg → FnOk l.prog w (K w.params) mg base (L2N.CX l.prog w) k fa fd [x] (spF (K w.params) C lv false F))
    (hL : ∀ ns : List Int, ns.length ≤ n → ∃ S', F [.lst (ns.map D.int)] [] = .ok (.bl true) S') :
    PySem.W.WalkO q loose (PySem.W.XL q lvs) YP l.row.toRowW d [] (fun f vs => PySem.call f vs) := by
  refine Att.attach_call hn hdf fun w s₀ s₁ mg mb fa o pm cd doc a vs ns G Y ho hd hcd hmg hobj hints hlen hg => ?_
  have KX := hY w _ Y
  obtain ⟨C, lv, fd, hb, hA⟩ := hF w mg fa _ KX G.T.g G.X.2 hmg
  exact law_call KX G.T.g G.T.b G.T.builtins G.T.nolimit hg hobj hints (Nat.le_trans hlen hn2) hr hA hb (fun H hO hS => law_sp hO hS (hL ns hlen)) fun H e s' ⟨_, _, _, _, _, _, _, _, _, _, _, _, z⟩ => z
end Sm
namespace Sm
open PySem PySem.Spec PyProof.Rows L2
def fNeg : D → Option D
  | .int i => some (.int (-i))
  | _ => none
theorem f_neg {K : PySem.W.Frag} : Op1 K (rU fun i => .int (-i)) fNeg := by
  intro J Γ σ sl g H S Q d z x hz r b p
  cases d <;> first | (cases hz; done) | skip
  cases hz
  exact ⟨_, b.int, PD.now p r (.int _)⟩
theorem room_un {k : Nat} {A : Around} (r : L2H.RoomH k A) : A.units + 64 < cLine := by have := r.un; omega
end Sm
namespace Sm
open PySem PySem.Spec PyProof.Rows L2
theorem sd_const {X : Cx} {J : Jd} {Γ : List Bool} {n : Int} {x : Str} {pos : Pos} (h : ∃ u, X.mg x = some u ∧ RelV (.int n) u) (hg : Gl X x := by rfl) (hd : (x == ("__debug__" : Str)) = false := by decide) : SD X J Γ (.Name x pos) (mC (.int n)) := by
  obtain ⟨u, h1, h2⟩ := h
  exact sd_glob h1 h2 (fun _ _ _ => .int n) hg hd
theorem exm_of {K : PySem.W.Frag} {C : Cfg} {i j : Nat} {b : Bool} (e : ExcC K (C.ca j)) (ty : PySem.W.typeIn K (.ref (C.ca j)) = some (.type "type")) (sb : PySem.W.subIn K (.ref (C.ca i)) (.ref (C.ca j)) = some b) : PySem.W.exmOne K (.ref (C.ca i)) (.ref (C.ca j)) = some b := PySem.W.exm_ref e.hs e.hd ty sb
theorem loose_int {lvs : List (Str × PySem.W.WData)} {mg : Str → Option Value} {h : Heap} {x : Str} {n : Int} (L : PySem.W.LooseAre lvs mg h) (hm : (x, PySem.W.WData.int n) ∈ lvs) : ∃ u, mg x = some u ∧ RelV (.int n) u := by
  obtain ⟨v, h1, h2⟩ := L.val _ hm
  refine ⟨v, h1, ?_⟩
  cases h2
  exact ⟨_, rfl⟩
end Sm
namespace Sm
open PySem PySem.Spec PyProof.Rows L2
theorem spF_w {K : PySem.W.Frag} {C : Cfg} {z : Option Cau} {lv : Bool} {F : Fn} {vs : List V} {H : Hp} {Q : VK} {E : XK} (hca : C.cau = none) (h : spF K (C.with_ z) lv false F vs H Q E) : spF K C lv false F vs H Q E := by
  have hC : (C.with_ z).with_ none = C := by cases C; cases hca; rfl
  obtain ⟨g, ds, S, hn, hs, hd, p⟩ := h
  refine ⟨g, ds, S, hn, sto_out hca hs, ?_, ?_⟩
  · have b := hd.w (z := none)
    rwa [hC] at b
  · cases e : F ds S with
    | ok d S' =>
      rw [e] at p
      intro g' H' v n st so re fr
      refine p g' H' v n st so.w ?_ fr
      unfold RepY at re ⊢
      rw [if_neg Bool.false_ne_true] at re ⊢
      exact re.w
    | err x S' =>
      rw [e] at p
      exact fun g' H' cls dx n st so re => p g' H' cls dx n st so.w re.w
    | stuck => rw [e] at p; exact p
theorem HasH.w {P : Program} {w : World} {K : PySem.W.Frag} {mg : Str → Option Value} {base : Heap} {x : Str} {C : Cfg} {z : Option Cau} {k : Nat} {lv : Bool} {ps : List Str} {F : Fn} (h : HasH P w K mg base x C k lv ps F) (hca : C.cau = none := by rfl) : HasH P w K mg base x (C.with_ z) k lv ps F := by
  obtain ⟨f, fd, h1, h2, h3, h4⟩ := h.ex
  exact ⟨f, fd, h1, h2, h3, ⟨fun vs H Q E q => h4.len vs H Q E (spF_w hca q), fun A outer s H args us vs Q E p a1 a2 a3 a4 a5 a6 q => h4.run A outer s H args us vs Q E p a1 a2 a3 a4 a5 a6 (spF_w hca q)⟩⟩
end Sm
namespace Sm
open PySem PySem.Spec PyProof.Rows L2
section
variable {X : Cx} {B : Js} {Γ Γ' : List Bool} {elt tg iter : Expr} {ms : Mx (List D)} {t : Tg} {mt : Mx Bool} {me : Mx D} {gt : TG} {tt : TT} {ifs : List Expr} {scope : Scope} {own : List (Str × Nat)} {pos py spos : Pos}
theorem lc_toD {K : PySem.W.Frag} {J : Jd} {σ : L2.St} {H : Hp} {Q : VK} {vs : List Nat} {te : TE} (hca : J.C.cau = none)
    (hg : ∀ (g : Gh) (sl sl' : List (Option D)) (S : Sto) (σ : L2.St) (H : Hp) (d : D) (v : V) (Q : L2.St → Hp → Prop), Rel K J.C Γ g sl S σ H → Rep K J.C g.G g.ρ d v → t d sl = some sl' → (∀ σ', SetOnly vs σ σ' → Rel K J.C Γ' g sl' S σ' H → Q σ' H) → gt v σ H Q)
    (ht : ∀ σ H Q, tDb K J.blk Γ' mt σ H Q → tt σ H Q) (he : ∀ σ H Q, tD K J.blk Γ' me σ H Q → te σ H Q) (q : tD K J Γ (mLc ms t mt me vs) σ H Q) : tLc (tI K J (cE J.lv) Γ ms) gt tt te vs σ H Q := by
  obtain ⟨g, sl, S, r, p⟩ := tD_iff.mp q
  refine lc_post hca postD r p hg ht he fun g' H' zs ys S' Da st rl hD h1 h2 h3 h4 p => ?_
  have st' := stp_froze st hD h1 h2 h3
  refine p _ H' _ st' (r.step st' (sto_froze rl.sto h1 h2 h3)) (.lst (.of upd_same) (h4.mono (fun a u h => ?_) fun _ _ z => z))
  have z : a ≠ Da := fun z => by rw [z, h3] at h; cases h
  show upd g'.G Da _ a = _
  rw [upd_ne z]; exact h
theorem lc_toN {K : PySem.W.Frag} {J : Jd} {σ : L2.St} {H : Hp} {Q : VK} {vs : List Nat} {te : TE} (hca : J.C.cau = none)
    (hg : ∀ (g : Gh) (sl sl' : List (Option D)) (S : Sto) (σ : L2.St) (H : Hp) (d : D) (v : V) (Q : L2.St → Hp → Prop), Rel K J.C Γ g sl S σ H → Rep K J.C g.G g.ρ d v → t d sl = some sl' → (∀ σ', SetOnly vs σ σ' → Rel K J.C Γ' g sl' S σ' H → Q σ' H) → gt v σ H Q)
    (ht : ∀ σ H Q, tDb K J.blk Γ' mt σ H Q → tt σ H Q) (he : ∀ σ H Q, tD K J.blk Γ' me σ H Q → te σ H Q) (q : tNw K J Γ (mLc ms t mt me vs) σ H Q) : tLc (tI K J (cE J.lv) Γ ms) gt tt te vs σ H Q := by
  obtain ⟨g, sl, S, r, p⟩ := tNw_iff.mp q
  exact lc_post hca postN r p hg ht he fun g' H' zs ys S' Da st rl hD h1 h2 h3 h4 p => p _ H' _ st rl ⟨Da, rfl, h2, h3, zs, h1, h4⟩ fun p hp => by cases hp; exact hD
/-- name = [.. for ..], as the model runs it when the name is a plain local -/
theorem ss_setLc (i : Nat) {y : Str} (hN : X.N.Nodup) (hc : X.calm = true) (hi : SI X B.J (cE B.J.lv) Γ tg iter ms) (ok : BlkOk X.N X.env.scope scope own)
    (hg : ∀ (s : Shared) (H : Hp) (C : Addr) (cl : List (Str × Addr)) (fp : List Addr), STg (X.blk s H scope (compEnvC scope cl C X.env) fp) B.J.C Γ Γ' (own.map (·.2)) tg t gt)
    (ht : ∀ (s : Shared) (H : Hp) (C : Addr) (cl : List (Str × Addr)) (fp : List Addr), STs (X.blk s H scope (compEnvC scope cl C X.env) fp) B.J.blk Γ' ifs mt tt)
    (he : ∀ (s : Shared) (H : Hp) (C : Addr) (cl : List (Str × Addr)) (fp : List Addr), SD (X.blk s H scope (compEnvC scope cl C X.env) fp) B.J.blk Γ' elt me) (hΓ : Γ.getD i false = false := by rfl) (hX : leG B.ΓX Γ = true := by rfl) (hy : X.N[i]? = some y := by rfl) (hyl : X.env.scope.names.lookup y = some .local := by rfl)
    (hsw : swapsWith (.ListComp elt [⟨tg, iter, ifs, 0⟩] scope pos) (some (.Name y py)) spos.line X.env = pure true := by rfl) (hs : ∀ x, foldedSetIterable iter X.env x = pure x := by intro _; rfl) (hca : B.J.C.cau = none := by rfl) :
    SS X B Γ Γ (.Assign [.Name y py] (.ListComp elt [⟨tg, iter, ifs, 0⟩] scope pos) spos) (mPut (tName i) (mLc ms t mt me (own.map (·.2)))) :=
  PS.imp (ps_setLc (te := tD X.K B.J.blk Γ' me) hc hN hy hyl hsw hi ok (fun s H C cl fp => (hg s H C cl fp).1) (fun s H C cl fp => (ht s H C cl fp).1) he hs) fun E σ H q =>
    put_run rfl (fun _ _ _ z => lc_toD hca (hg X.s_0 X.H_0 X.env.locals [] []).2 (ht X.s_0 X.H_0 X.env.locals [] []).2 (fun _ _ _ z => z) z) (tg_name (pos := py) i hN hΓ hy (.inl hyl) (.inr hyl)) hX q
theorem ss_ownLc (i : Nat) {y : Str} (hN : X.N.Nodup) (hc : X.calm = true) (hi : SI X B.J (cE B.J.lv) Γ tg iter ms) (ok : BlkOk X.N X.env.scope scope own)
    (hg : ∀ (s : Shared) (H : Hp) (C : Addr) (cl : List (Str × Addr)) (fp : List Addr), STg (X.blk s H scope (compEnvC scope cl C X.env) fp) B.J.C Γ Γ' (own.map (·.2)) tg t gt)
    (ht : ∀ (s : Shared) (H : Hp) (C : Addr) (cl : List (Str × Addr)) (fp : List Addr), STs (X.blk s H scope (compEnvC scope cl C X.env) fp) B.J.blk Γ' ifs mt tt)
    (he : ∀ (s : Shared) (H : Hp) (C : Addr) (cl : List (Str × Addr)) (fp : List Addr), SD (X.blk s H scope (compEnvC scope cl C X.env) fp) B.J.blk Γ' elt me) (hi' : i < Γ.length := by decide) (hX : leG B.ΓX Γ = true := by rfl) (hy : X.N[i]? = some y := by rfl) (hyl : X.env.scope.names.lookup y = some .local := by rfl)
    (hsw : swapsWith (.ListComp elt [⟨tg, iter, ifs, 0⟩] scope pos) (some (.Name y py)) spos.line X.env = pure true := by rfl) (hs : ∀ x, foldedSetIterable iter X.env x = pure x := by intro _; rfl) (hca : B.J.C.cau = none := by rfl) :
    SS X B Γ (Γ.set i true) (.Assign [.Name y py] (.ListComp elt [⟨tg, iter, ifs, 0⟩] scope pos) spos) (mOwn i (mLc ms t mt me (own.map (·.2)))) :=
  PS.imp (ps_setLc (te := tD X.K B.J.blk Γ' me) hc hN hy hyl hsw hi ok (fun s H C cl fp => (hg s H C cl fp).1) (fun s H C cl fp => (ht s H C cl fp).1) he hs) fun E σ H q =>
    own_run (fun _ _ _ z => lc_toN hca (hg X.s_0 X.H_0 X.env.locals [] []).2 (ht X.s_0 X.H_0 X.env.locals [] []).2 (fun _ _ _ z => z) z) hi' hX q
end
end Sm
set_option Elab.async false
set_option linter.all false
set_option maxRecDepth 100000
set_option maxHeartbeats 4000000
namespace K29
open PySem PySem.Spec PyProof.Rows L2 Sm
def top (i : Nat) : Stmt := PySem.Challenge.pw_beadmoot_k29_ledger.main.body.getD i (.Pass ⟨0, 0, 0, 0⟩)
abbrev s__law_mixed : Stmt := top 12
abbrev s__law_draws : Stmt := top 13
abbrev s__law_words : Stmt := top 16
abbrev s__law_cell : Stmt := top 11
abbrev s__law_first : Stmt := top 17
abbrev s_Ledger_init : Stmt := inClass (top 9) 0
abbrev s__law_deed : Stmt := top 19
abbrev s__law_balance : Stmt := top 18
abbrev s__law_due : Stmt := top 20
abbrev s__law_behind : Stmt := top 21
abbrev s__law_is_integer : Stmt := top 14
abbrev s__law_same : Stmt := top 15
abbrev s__law_refuses : Stmt := top 25
abbrev s_Ledger_payments : Stmt := inClass (top 9) 5
abbrev s_Ledger_balance : Stmt := inClass (top 9) 1
abbrev s_Ledger_spent : Stmt := inClass (top 9) 6
abbrev s__law_tells : Stmt := top 23
abbrev s_Ledger_take_back : Stmt := inClass (top 9) 4
abbrev s_Ledger_pay : Stmt := inClass (top 9) 2
abbrev s_Ledger_pay_in : Stmt := inClass (top 9) 3
abbrev s__law_ask : Stmt := top 22
abbrev s__law_taken_back : Stmt := top 24
abbrev s_law : Stmt := top 26
def fl0 : Nat → List Str
  | 5 => ["_coins", "_written"]
  | _ => []
def ow0 : Nat → Nat → Bool
  | 5, 1 => true
  | _, _ => false
def xl0 : Nat → List Str
  | 2 => ["coins"]
  | 3 => ["price", "coins"]
  | _ => []
abbrev cfg (A : Nat → Addr) : Cfg := ⟨A, fl0, ow0, xl0, none⟩
theorem in_coins : In1 "coins" := ⟨by decide, by decide, by rfl, by rfl, by rfl, fun _ _ _ _ _ _ => rfl, fun _ _ _ _ _ _ _ _ _ _ _ _ _ _ _ _ => rfl⟩
theorem in_price_coins : In2 "price" "coins" := ⟨by decide, by decide, by decide, by decide, by decide, by rfl, by rfl, by rfl, by rfl, fun _ _ _ _ _ _ _ h => by rcases h with rfl | rfl <;> rfl, fun _ _ _ _ _ _ _ _ _ _ _ _ _ _ _ _ _ _ _ => rfl⟩
structure Tx (P : Program) (K : PySem.W.Frag) (mg : Str → Option Value) (A : Nat → Addr) : Prop where
  c_MootError : mg "MootError" = some (.ref (A 0))
  c_NothingToUndo : mg "NothingToUndo" = some (.ref (A 1))
  c_BadCoins : mg "BadCoins" = some (.ref (A 2))
  c_NoCoins : mg "NoCoins" = some (.ref (A 3))
  c_BadLine : mg "BadLine" = some (.ref (A 4))
  c_Ledger : mg "Ledger" = some (.ref (A 5))
  cl_5 : Cls K (A 5)
  mk_5 : PySem.W.makesIn K (A 5) = true
  kp_5 : PySem.W.keepIn K (.ref (A 5)) = true
  na_5_0 : NoAttr K (A 5) "_coins"
  na_5_1 : NoAttr K (A 5) "_written"
  m_5_init : ∃ (f : Addr) (fd : FuncData), Fun K "__init__" "Ledger.__init__" s_Ledger_init f fd ∧ PySem.W.findIn K (.ref (A 5)) "__init__" = some (some (.ref f)) ∧ PySem.W.isFn K (.ref f) = true
  m_5_balance : ∃ (f : Addr) (fd : FuncData), Fun K "balance" "Ledger.balance" s_Ledger_balance f fd ∧ Meth K (A 5) "balance" f
  m_5_pay : ∃ (f : Addr) (fd : FuncData), Fun K "pay" "Ledger.pay" s_Ledger_pay f fd ∧ Meth K (A 5) "pay" f
  m_5_pay_in : ∃ (f : Addr) (fd : FuncData), Fun K "pay_in" "Ledger.pay_in" s_Ledger_pay_in f fd ∧ Meth K (A 5) "pay_in" f
  m_5_take_back : ∃ (f : Addr) (fd : FuncData), Fun K "take_back" "Ledger.take_back" s_Ledger_take_back f fd ∧ Meth K (A 5) "take_back" f
  m_5_payments : ∃ (f : Addr) (fd : FuncData), Fun K "payments" "Ledger.payments" s_Ledger_payments f fd ∧ Meth K (A 5) "payments" f
  m_5_spent : ∃ (f : Addr) (fd : FuncData), Fun K "spent" "Ledger.spent" s_Ledger_spent f fd ∧ Meth K (A 5) "spent" f
  f__law_mixed : ∃ (f : Addr) (fd : FuncData), Fun K "_law_mixed" "_law_mixed" s__law_mixed f fd ∧ mg "_law_mixed" = some (.ref f)
  f__law_draws : ∃ (f : Addr) (fd : FuncData), Fun K "_law_draws" "_law_draws" s__law_draws f fd ∧ mg "_law_draws" = some (.ref f)
  f__law_words : ∃ (f : Addr) (fd : FuncData), Fun K "_law_words" "_law_words" s__law_words f fd ∧ mg "_law_words" = some (.ref f)
  f__law_cell : ∃ (f : Addr) (fd : FuncData), Fun K "_law_cell" "_law_cell" s__law_cell f fd ∧ mg "_law_cell" = some (.ref f)
  f__law_first : ∃ (f : Addr) (fd : FuncData), Fun K "_law_first" "_law_first" s__law_first f fd ∧ mg "_law_first" = some (.ref f)
  f__law_deed : ∃ (f : Addr) (fd : FuncData), Fun K "_law_deed" "_law_deed" s__law_deed f fd ∧ mg "_law_deed" = some (.ref f)
  f__law_balance : ∃ (f : Addr) (fd : FuncData), Fun K "_law_balance" "_law_balance" s__law_balance f fd ∧ mg "_law_balance" = some (.ref f)
  f__law_due : ∃ (f : Addr) (fd : FuncData), Fun K "_law_due" "_law_due" s__law_due f fd ∧ mg "_law_due" = some (.ref f)
  f__law_behind : ∃ (f : Addr) (fd : FuncData), Fun K "_law_behind" "_law_behind" s__law_behind f fd ∧ mg "_law_behind" = some (.ref f)
  f__law_is_integer : ∃ (f : Addr) (fd : FuncData), Fun K "_law_is_integer" "_law_is_integer" s__law_is_integer f fd ∧ mg "_law_is_integer" = some (.ref f)
  f__law_same : ∃ (f : Addr) (fd : FuncData), Fun K "_law_same" "_law_same" s__law_same f fd ∧ mg "_law_same" = some (.ref f)
  f__law_refuses : ∃ (f : Addr) (fd : FuncData), Fun K "_law_refuses" "_law_refuses" s__law_refuses f fd ∧ mg "_law_refuses" = some (.ref f)
  f__law_tells : ∃ (f : Addr) (fd : FuncData), Fun K "_law_tells" "_law_tells" s__law_tells f fd ∧ mg "_law_tells" = some (.ref f)
  f__law_ask : ∃ (f : Addr) (fd : FuncData), Fun K "_law_ask" "_law_ask" s__law_ask f fd ∧ mg "_law_ask" = some (.ref f)
  f__law_taken_back : ∃ (f : Addr) (fd : FuncData), Fun K "_law_taken_back" "_law_taken_back" s__law_taken_back f fd ∧ mg "_law_taken_back" = some (.ref f)
  f_law : ∃ (f : Addr) (fd : FuncData), Fun K "law" "law" s_law f fd ∧ mg "law" = some (.ref f)
  b_ValueError : mg "ValueError" = none
  b_bool : mg "bool" = none
  b_int : mg "int" = none
  b_isinstance : mg "isinstance" = none
  b_len : mg "len" = none
  b_list : mg "list" = none
  b_max : mg "max" = none
  b_min : mg "min" = none
  b_range : mg "range" = none
  b_str : mg "str" = none
  b_sum : mg "sum" = none
  b_tuple : mg "tuple" = none
  g_MOST_COINS : ∃ u, mg "MOST_COINS" = some u ∧ RelV (.int 1000000000000) u
  g_MOST_PAID_IN : ∃ u, mg "MOST_PAID_IN" = some u ∧ RelV (.int 1000000000) u
  ty_0 : PySem.W.typeIn K (.ref (A 0)) = some (.type "type")
  ec_0 : ExcC K (A 0)
  kx_1 : PySem.W.keepIn K (.ref (A 1)) = true
  rx_1 : PySem.W.subIn K (.ref (A 1)) (.type "BaseException") = some true
  ei_1 : PySem.W.excIn K (A 1) [.type "ValueError", .type "Exception", .type "BaseException", .type "object"] "ValueError.__new__" = true
  ty_1 : PySem.W.typeIn K (.ref (A 1)) = some (.type "type")
  ec_1 : ExcC K (A 1)
  kx_2 : PySem.W.keepIn K (.ref (A 2)) = true
  rx_2 : PySem.W.subIn K (.ref (A 2)) (.type "BaseException") = some true
  es_2 : PySem.EsX.EsT P K mg (A 2) ["coins"]
  ty_2 : PySem.W.typeIn K (.ref (A 2)) = some (.type "type")
  ec_2 : ExcC K (A 2)
  xf_2 : XfC K (A 2)
  nf_2_coins : PySem.W.findIn K (.ref (A 2)) "coins" = some none
  kx_3 : PySem.W.keepIn K (.ref (A 3)) = true
  rx_3 : PySem.W.subIn K (.ref (A 3)) (.type "BaseException") = some true
  es_3 : PySem.EsX.EsT P K mg (A 3) ["price", "coins"]
  ty_3 : PySem.W.typeIn K (.ref (A 3)) = some (.type "type")
  ec_3 : ExcC K (A 3)
  xf_3 : XfC K (A 3)
  nf_3_coins : PySem.W.findIn K (.ref (A 3)) "coins" = some none
  nf_3_price : PySem.W.findIn K (.ref (A 3)) "price" = some none
  ty_4 : PySem.W.typeIn K (.ref (A 4)) = some (.type "type")
  ec_4 : ExcC K (A 4)
  sb_0_0 : PySem.W.subIn K (.ref (A 0)) (.ref (A 0)) = some true
  sb_0_1 : PySem.W.subIn K (.ref (A 0)) (.ref (A 1)) = some false
  sb_0_2 : PySem.W.subIn K (.ref (A 0)) (.ref (A 2)) = some false
  sb_0_3 : PySem.W.subIn K (.ref (A 0)) (.ref (A 3)) = some false
  sb_1_0 : PySem.W.subIn K (.ref (A 1)) (.ref (A 0)) = some true
  sb_1_1 : PySem.W.subIn K (.ref (A 1)) (.ref (A 1)) = some true
  sb_1_2 : PySem.W.subIn K (.ref (A 1)) (.ref (A 2)) = some false
  sb_1_3 : PySem.W.subIn K (.ref (A 1)) (.ref (A 3)) = some false
  sb_2_0 : PySem.W.subIn K (.ref (A 2)) (.ref (A 0)) = some true
  sb_2_1 : PySem.W.subIn K (.ref (A 2)) (.ref (A 1)) = some false
  sb_2_2 : PySem.W.subIn K (.ref (A 2)) (.ref (A 2)) = some true
  sb_2_3 : PySem.W.subIn K (.ref (A 2)) (.ref (A 3)) = some false
  sb_3_0 : PySem.W.subIn K (.ref (A 3)) (.ref (A 0)) = some true
  sb_3_1 : PySem.W.subIn K (.ref (A 3)) (.ref (A 1)) = some false
  sb_3_2 : PySem.W.subIn K (.ref (A 3)) (.ref (A 2)) = some false
  sb_3_3 : PySem.W.subIn K (.ref (A 3)) (.ref (A 3)) = some true
  sb_4_0 : PySem.W.subIn K (.ref (A 4)) (.ref (A 0)) = some true
  sb_4_1 : PySem.W.subIn K (.ref (A 4)) (.ref (A 1)) = some false
  sb_4_2 : PySem.W.subIn K (.ref (A 4)) (.ref (A 2)) = some false
  sb_4_3 : PySem.W.subIn K (.ref (A 4)) (.ref (A 3)) = some false
  is_0_BadCoins : PySem.W.kitOne K (.ref (A 0)) (.ref (A 2)) = some false
  is_0_BadLine : PySem.W.kitOne K (.ref (A 0)) (.ref (A 4)) = some false
  is_0_NoCoins : PySem.W.kitOne K (.ref (A 0)) (.ref (A 3)) = some false
  is_0_NothingToUndo : PySem.W.kitOne K (.ref (A 0)) (.ref (A 1)) = some false
  is_0_ValueError : PySem.W.kitOne K (.ref (A 0)) (.type "ValueError") = some true
  is_1_BadCoins : PySem.W.kitOne K (.ref (A 1)) (.ref (A 2)) = some false
  is_1_BadLine : PySem.W.kitOne K (.ref (A 1)) (.ref (A 4)) = some false
  is_1_NoCoins : PySem.W.kitOne K (.ref (A 1)) (.ref (A 3)) = some false
  is_1_NothingToUndo : PySem.W.kitOne K (.ref (A 1)) (.ref (A 1)) = some true
  is_1_ValueError : PySem.W.kitOne K (.ref (A 1)) (.type "ValueError") = some true
  is_2_BadCoins : PySem.W.kitOne K (.ref (A 2)) (.ref (A 2)) = some true
  is_2_BadLine : PySem.W.kitOne K (.ref (A 2)) (.ref (A 4)) = some false
  is_2_NoCoins : PySem.W.kitOne K (.ref (A 2)) (.ref (A 3)) = some false
  is_2_NothingToUndo : PySem.W.kitOne K (.ref (A 2)) (.ref (A 1)) = some false
  is_2_ValueError : PySem.W.kitOne K (.ref (A 2)) (.type "ValueError") = some true
  is_3_BadCoins : PySem.W.kitOne K (.ref (A 3)) (.ref (A 2)) = some false
  is_3_BadLine : PySem.W.kitOne K (.ref (A 3)) (.ref (A 4)) = some false
  is_3_NoCoins : PySem.W.kitOne K (.ref (A 3)) (.ref (A 3)) = some true
  is_3_NothingToUndo : PySem.W.kitOne K (.ref (A 3)) (.ref (A 1)) = some false
  is_3_ValueError : PySem.W.kitOne K (.ref (A 3)) (.type "ValueError") = some true
  is_4_BadCoins : PySem.W.kitOne K (.ref (A 4)) (.ref (A 2)) = some false
  is_4_BadLine : PySem.W.kitOne K (.ref (A 4)) (.ref (A 4)) = some true
  is_4_NoCoins : PySem.W.kitOne K (.ref (A 4)) (.ref (A 3)) = some false
  is_4_NothingToUndo : PySem.W.kitOne K (.ref (A 4)) (.ref (A 1)) = some false
  is_4_ValueError : PySem.W.kitOne K (.ref (A 4)) (.type "ValueError") = some true
section
variable {P : Program} {w : World} {K : PySem.W.Frag} {mg : Str → Option Value} {base : Heap} {A : Nat → Addr}
theorem Tx.cfg (T : Tx P K mg A) : CfgOk K (cfg A) where
  at_ := fun c k n h => by
    have h : (fl0 c)[k]? = some n := h
    show Cls K (A c) ∧ NoAttr K (A c) n
    unfold fl0 at h
    split at h
    · rcases k with _ | k
      · cases h; exact ⟨T.cl_5, T.na_5_0⟩
      rcases k with _ | k
      · cases h; exact ⟨T.cl_5, T.na_5_1⟩
      cases h
    · simp at h
  few := fun c => by show (fl0 c).length ≤ 100; unfold fl0; split <;> decide
  nd := fun c => by show (fl0 c).Nodup; unfold fl0; split <;> decide +kernel

def m__law_mixed : Ms := (mSq (mPut (tName 2) (mOp fMod (mCal kInt (mCons (mOp fAdd (mOp fAdd (mVar 0) (mOp fMul (mC (.int 7919)) (mVar 1))) (mC (.int 13))) mNil)) (mC (.int 2147483647)))) (mSq (mPut (tName 2) (mOp fMod (mCal kInt (mCons (mOp fMul (mVar 2) (mOp fAdd (mVar 2) (mC (.int 48271)))) mNil)) (mC (.int 2147483629)))) (mSq (mPut (tName 2) (mOp fMod (mCal kInt (mCons (mOp fAdd (mOp fMul (mVar 2) (mOp fAdd (mVar 2) (mC (.int 69621)))) (mOp fMul (mC (.int 31)) (mVar 1))) mNil)) (mC (.int 2147483647)))) (mRet (mOp fFdiv (mVar 2) (mC (.int 9)))))))
def F__law_mixed : Fn := mFn 2 3 false m__law_mixed
theorem d__law_mixed (T : Tx P K mg A) {f : Addr} {fd : FuncData} (Fu : Fun K "_law_mixed" "_law_mixed" s__law_mixed f fd) : FnOk P w K mg base (L2N.CX P w) 1 f fd ["_law_cell_here", "_law_k"] (spF K (cfg A) false false F__law_mixed) := by
  have hN : (["_law_cell_here", "_law_k", "_law_mixed_here"] : List Str).Nodup := by decide +kernel
  exact fn_sim (N := ["_law_cell_here", "_law_k", "_law_mixed_here"]) (ps := ["_law_cell_here", "_law_k"]) (m := m__law_mixed) (ΓX := []) (Γ' := [false, false, false]) rfl Fu ⟨rfl, rfl, rfl, by decide +kernel, rfl, by decide +kernel, by decide +kernel⟩ fun cdv A' outer s H E hr => (sss_cons (ss_set 2 hN (sd_op op_mod f_mod (sb_of (sd_calT o_int f_int T.b_int rfl (sbs_cons (sb_of (sd_op o_add f_add (sb_of (sd_op o_add f_add (sb_var 0) (sb_of (sd_op op_mul f_mul (sb_of sd_int) (sb_var 1))))) (sb_of sd_int))) sbs_nil))) (sb_of sd_int))) (sss_cons (ss_set 2 hN (sd_op op_mod f_mod (sb_of (sd_calT o_int f_int T.b_int rfl (sbs_cons (sb_of (sd_op op_mul f_mul (sb_var 2) (sb_of (sd_op o_add f_add (sb_var 2) (sb_of sd_int))))) sbs_nil))) (sb_of sd_int))) (sss_cons (ss_set 2 hN (sd_op op_mod f_mod (sb_of (sd_calT o_int f_int T.b_int rfl (sbs_cons (sb_of (sd_op o_add f_add (sb_of (sd_op op_mul f_mul (sb_var 2) (sb_of (sd_op o_add f_add (sb_var 2) (sb_of sd_int))))) (sb_of (sd_op op_mul f_mul (sb_of sd_int) (sb_var 1))))) sbs_nil))) (sb_of sd_int))) (sss_one (ss_ret (sd_op op_fdivW f_fdiv (sb_var 2) (sb_of sd_int)))))))
theorem h__law_mixed (T : Tx P K mg A) : Has P w K mg base "_law_mixed" (cfg A) 1 false false ["_law_cell_here", "_law_k"] F__law_mixed := by
  obtain ⟨f, fd, Fu, hm⟩ := T.f__law_mixed
  exact ⟨f, fd, hm, Fu.kp, (Fu.binds (ps := ["_law_cell_here", "_law_k"]) fun _ _ _ _ _ _ us hl => match us, hl with | [_, _], _ => rfl), d__law_mixed T Fu⟩

def L0_law_draws : Ms := (mIf (mAndT (mTst (mOp fGe (mVar 0) (mOp fPow (mC (.int 10)) (mC (.int 18))))) (mTst (mOp fGt (mVar 4) (mC (.int 0))))) (mSq (mOwnS oAppend 3 (mCons (mOp fMod (mCal kInt (mCons (mVar 4) mNil)) (mVar 2)) mNil) fun _ => mSkip) (mPut (tName 4) (mOp fFdiv (mVar 4) (mVar 2)))) (mOwnS oAppend 3 (mCons (mOp fMod (mCal kInt (mCons (mCall F__law_mixed (mCons (mVar 0) (mCons (mVar 5) mNil))) mNil)) (mVar 2)) mNil) fun _ => mSkip))
def m__law_draws : Ms := (mSq (mOwn 3 (mLst mNil)) (mSq (mPut (tName 4) (mVar 0)) (mSq (mFor (mRng kRng1 (mCons (mVar 1) mNil)) (tName 5) L0_law_draws) (mRet (mVar 3)))))
def F__law_draws : Fn := mFn 3 6 false m__law_draws
theorem d__law_draws (T : Tx P K mg A) {f : Addr} {fd : FuncData} (Fu : Fun K "_law_draws" "_law_draws" s__law_draws f fd) : FnOk P w K mg base (L2N.CX P w) 2 f fd ["_law_cell_here", "_law_count", "_law_size"] (spF K (cfg A) false false F__law_draws) := by
  have hN : (["_law_cell_here", "_law_count", "_law_size", "_law_draws_here", "_law_rest", "_law_k"] : List Str).Nodup := by decide +kernel
  exact fn_sim (N := ["_law_cell_here", "_law_count", "_law_size", "_law_draws_here", "_law_rest", "_law_k"]) (ps := ["_law_cell_here", "_law_count", "_law_size"]) (m := m__law_draws) (ΓX := []) (Γ' := [false, false, false, true, false, false]) rfl Fu ⟨rfl, rfl, rfl, by decide +kernel, rfl, by decide +kernel, by decide +kernel⟩ fun cdv A' outer s H E hr => (sss_cons (ss_own 3 hN (sn_lst sds_nil)) (sss_cons (ss_set 4 hN (sd_var 0)) (sss_cons (ss_for (passes_of rfl) rfl (si_range1 (sds_cons (sd_var 1) sds_nil) T.b_range) (tg_name 5 hN) (sss_one (ss_if (Γ' := [false, false, false, true, false, false]) (st_w (sw_and (st_cmp op_ge f_ge (sb_var 0) (sb_of (sd_op op_pow f_pow (sb_of sd_int) (sb_of sd_int)))) (sw_and1 (st_cmp op_gt f_gt (sb_var 4) (sb_of sd_int))))) (sss_cons (ss_ownDo 3 (pe_bm PySem.F.plainAttrs_list PySem.F.slot_list_append PySem.F.type_list_append mt_append (pv 3) (sds_cons (sd_op op_mod f_mod (sb_of (sd_calT o_int f_int T.b_int rfl (sbs_cons (sb_var 4) sbs_nil))) (sb_var 2)) sds_nil)) oo_append) (sss_one (ss_set 4 hN (sd_op op_fdivW f_fdiv (sb_var 4) (sb_var 2))))) (sss_one (ss_ownDo 3 (pe_bm PySem.F.plainAttrs_list PySem.F.slot_list_append PySem.F.type_list_append mt_append (pv 3) (sds_cons (sd_op op_mod f_mod (sb_of (sd_calT o_int f_int T.b_int rfl (sbs_cons (sb_of (sd_fn (h__law_mixed T) (lets (L2N.takes_of rfl rfl rfl rfl)) hr (sds_cons (sd_var 0) (sds_cons (sd_var 5) sds_nil)))) sbs_nil))) (sb_var 2)) sds_nil)) oo_append))))) (sss_one (ss_let (Γ1 := [false, false, false, false, false, false]) (by rfl) (ss_ret (sd_var 3)))))))
theorem h__law_draws (T : Tx P K mg A) : Has P w K mg base "_law_draws" (cfg A) 2 false false ["_law_cell_here", "_law_count", "_law_size"] F__law_draws := by
  obtain ⟨f, fd, Fu, hm⟩ := T.f__law_draws
  exact ⟨f, fd, hm, Fu.kp, (Fu.binds (ps := ["_law_cell_here", "_law_count", "_law_size"]) fun _ _ _ _ _ _ us hl => match us, hl with | [_, _, _], _ => rfl), d__law_draws T Fu⟩

def CE0_law_words : Mx D := (mOp fIx (mVar 1) (mOp fMod (mCal kInt (mCons (mVar 8) mNil)) (mC (.int 26))))
def m__law_words : Ms := (mSq (mPut (tName 1) (mC (.str "abcdefghijklmnopqrstuvwxyz"))) (mSq (mPut (tName 2) (mCall F__law_draws (mCons (mVar 0) (mCons (mC (.int 15)) (mCons (mOp fPow (mC (.int 10)) (mC (.int 4))) mNil))))) (mSq (mPut (tName 3) (mOp fAdd (mC (.int 1)) (mOp fMod (mCal kInt (mCons (mOp fIx (mVar 2) (mC (.int 12))) mNil)) (mC (.int 12))))) (mSq (mPut (tName 4) (mOp fMod (mCal kInt (mCons (mOp fIx (mVar 2) (mC (.int 13))) mNil)) (mVar 3))) (mSq (mPut (tName 5) (mM1 fJoin (mC (.str "")) (mLc (mSeq (mSl (mVar 2) none (some (mVar 3)))) (tName 8) mYes CE0_law_words [8]))) (mSq (mPut (tName 6) (mOp fMod (mCal kInt (mCons (mOp fAdd (mOp fAdd (mM1 fIndex (mVar 1) (mOp fIx (mVar 5) (mVar 4))) (mC (.int 1))) (mOp fMod (mCal kInt (mCons (mOp fIx (mVar 2) (mC (.int 14))) mNil)) (mC (.int 25)))) mNil)) (mC (.int 26)))) (mSq (mPut (tName 7) (mOp fAdd (mOp fAdd (mSl (mVar 5) none (some (mVar 4))) (mOp fIx (mVar 1) (mVar 6))) (mSl (mVar 5) (some (mOp fAdd (mVar 4) (mC (.int 1)))) none))) (mSq (mIf (mTst (mOp fEq (mVar 3) (mC (.int 1)))) (mRet (mLst (mCons (mVar 5) (mCons (mVar 7) (mCons (mOp fAdd (mVar 5) (mC (.str "q"))) mNil))))) mSkip) (mRet (mLst (mCons (mVar 5) (mCons (mVar 7) (mCons (mSl (mVar 5) none (some (mUn fNeg (mC (.int 1))))) mNil)))))))))))))
def F__law_words : Fn := mFn 1 9 false m__law_words
theorem d__law_words (T : Tx P K mg A) {f : Addr} {fd : FuncData} (Fu : Fun K "_law_words" "_law_words" s__law_words f fd) : FnOk P w K mg base (L2N.CX P w) 3 f fd ["_law_cell_here"] (spF K (cfg A) false false F__law_words) := by
  have hN : (["_law_cell_here", "_law_letters", "_law_draws_here", "_law_size", "_law_at", "_law_one", "_law_place", "_law_two", "_law_draw"] : List Str).Nodup := by decide +kernel
  exact fn_sim (N := ["_law_cell_here", "_law_letters", "_law_draws_here", "_law_size", "_law_at", "_law_one", "_law_place", "_law_two", "_law_draw"]) (ps := ["_law_cell_here"]) (m := m__law_words) (ΓX := []) (Γ' := [false, false, false, false, false, false, false, false, false]) rfl Fu ⟨rfl, rfl, rfl, by decide +kernel, rfl, by decide +kernel, by decide +kernel⟩ fun cdv A' outer s H E hr => (sss_cons (ss_set 1 hN sd_str) (sss_cons (ss_set 2 hN (sd_fn (h__law_draws T) (lets (L2N.takes_of rfl rfl rfl rfl)) hr (sds_cons (sd_var 0) (sds_cons sd_int (sds_cons (sd_op op_pow f_pow (sb_of sd_int) (sb_of sd_int)) sds_nil))))) (sss_cons (ss_set 3 hN (sd_op o_add f_add (sb_of sd_int) (sb_of (sd_op op_mod f_mod (sb_of (sd_calT o_int f_int T.b_int rfl (sbs_cons (sb_of (sd_ix (sb_var 2) (sb_of sd_int))) sbs_nil))) (sb_of sd_int))))) (sss_cons (ss_set 4 hN (sd_op op_mod f_mod (sb_of (sd_calT o_int f_int T.b_int rfl (sbs_cons (sb_of (sd_ix (sb_var 2) (sb_of sd_int))) sbs_nil))) (sb_var 3))) (sss_cons (ss_set 5 hN (sd_join (sb_of sd_str) (sb_of (sd_lc (own := [("_law_draw", 8)]) rfl hN (si_seqB (sb_of (sd_sl (sb_var 2) SP.none (SP.some (sd_var 3))))) (by show BlkOk ["_law_cell_here", "_law_letters", "_law_draws_here", "_law_size", "_law_at", "_law_one", "_law_place", "_law_two", "_law_draw"] (defScope s__law_words) _ _; exact ⟨rfl, by decide +kernel, by decide +kernel, by decide +kernel, by decide +kernel⟩) (fun s H C cl fp => (tg_name 8 hN)) (fun s H C cl fp => sts_nil) (fun s H C cl fp => (sd_ix (sb_var 1) (sb_of (sd_op op_mod f_mod (sb_of (sd_calT o_int f_int T.b_int rfl (sbs_cons (sb_var 8) sbs_nil))) (sb_of sd_int))))))))) (sss_cons (ss_set 6 hN (sd_op op_mod f_mod (sb_of (sd_calT o_int f_int T.b_int rfl (sbs_cons (sb_of (sd_op o_add f_add (sb_of (sd_op o_add f_add (sb_of (sd_sindex (sb_var 1) (sb_of (sd_ix (sb_var 5) (sb_var 4))))) (sb_of sd_int))) (sb_of (sd_op op_mod f_mod (sb_of (sd_calT o_int f_int T.b_int rfl (sbs_cons (sb_of (sd_ix (sb_var 2) (sb_of sd_int))) sbs_nil))) (sb_of sd_int))))) sbs_nil))) (sb_of sd_int))) (sss_cons (ss_set 7 hN (sd_op o_add f_add (sb_of (sd_op o_add f_add (sb_of (sd_sl (sb_var 5) SP.none (SP.some (sd_var 4)))) (sb_of (sd_ix (sb_var 1) (sb_var 6))))) (sb_of (sd_sl (sb_var 5) (SP.some (sd_op o_add f_add (sb_var 4) (sb_of sd_int))) SP.none)))) (sss_cons (ss_if (Γ' := [false, false, false, false, false, false, false, false, false]) (st_cmp (o_eq (Room.units hr)) f_eq (sb_var 3) (sb_of sd_int)) (sss_one (ss_ret (sd_lst (sds_cons (sd_var 5) (sds_cons (sd_var 7) (sds_cons (sd_op o_add f_add (sb_var 5) (sb_of sd_str)) sds_nil)))))) sss_nil) (sss_one (ss_ret (sd_lst (sds_cons (sd_var 5) (sds_cons (sd_var 7) (sds_cons (sd_sl (sb_var 5) SP.none (SP.some (sd_un un_neg f_neg (sb_of sd_int)))) sds_nil))))))))))))))
theorem h__law_words (T : Tx P K mg A) : Has P w K mg base "_law_words" (cfg A) 3 false false ["_law_cell_here"] F__law_words := by
  obtain ⟨f, fd, Fu, hm⟩ := T.f__law_words
  exact ⟨f, fd, hm, Fu.kp, (Fu.binds (ps := ["_law_cell_here"]) fun _ _ _ _ _ _ us hl => match us, hl with | [_], _ => rfl), d__law_words T Fu⟩

def m__law_cell : Ms := (mSq (mIf (mTst (mOp fLt (mVar 1) (mCal kLen (mCons (mVar 0) mNil)))) (mRet (mOp fIx (mVar 0) (mVar 1))) mSkip) (mRet (mC (.int 0))))
def F__law_cell : Fn := mFn 2 2 false m__law_cell
theorem d__law_cell (T : Tx P K mg A) {f : Addr} {fd : FuncData} (Fu : Fun K "_law_cell" "_law_cell" s__law_cell f fd) : FnOk P w K mg base (L2N.CX P w) 1 f fd ["_law_script", "_law_at"] (spF K (cfg A) false false F__law_cell) := by
  have hN : (["_law_script", "_law_at"] : List Str).Nodup := by decide +kernel
  exact fn_sim (N := ["_law_script", "_law_at"]) (ps := ["_law_script", "_law_at"]) (m := m__law_cell) (ΓX := []) (Γ' := [false, false]) rfl Fu ⟨rfl, rfl, rfl, by decide +kernel, rfl, by decide +kernel, by decide +kernel⟩ fun cdv A' outer s H E hr => (sss_cons (ss_if (Γ' := [false, false]) (st_cmp op_lt f_lt (sb_var 1) (sb_of (sd_calB o_len f_len T.b_len rfl (sbs_cons (sb_var 0) sbs_nil)))) (sss_one (ss_ret (sd_ix (sb_var 0) (sb_var 1)))) sss_nil) (sss_one (ss_ret sd_int)))
theorem h__law_cell (T : Tx P K mg A) : Has P w K mg base "_law_cell" (cfg A) 1 false false ["_law_script", "_law_at"] F__law_cell := by
  obtain ⟨f, fd, Fu, hm⟩ := T.f__law_cell
  exact ⟨f, fd, hm, Fu.kp, (Fu.binds (ps := ["_law_script", "_law_at"]) fun _ _ _ _ _ _ us hl => match us, hl with | [_, _], _ => rfl), d__law_cell T Fu⟩

def m__law_first : Ms := (mSq (mPut (tName 1) (mCall F__law_draws (mCons (mVar 0) (mCons (mC (.int 2)) (mCons (mOp fPow (mC (.int 10)) (mC (.int 13))) mNil))))) (mSq (mPut (tName 2) (mCal kInt (mCons (mOp fIx (mVar 1) (mC (.int 1))) mNil))) (mSq (mPut (tName 3) (mLst (mCons (mC (.int 0)) (mCons (mOp fMod (mVar 2) (mC (.int 21))) (mCons (mOp fPow (mC (.int 10)) (mC (.int 12))) (mCons (mOp fSub (mOp fPow (mC (.int 10)) (mC (.int 12))) (mOp fMod (mVar 2) (mC (.int 21)))) (mCons (mOp fMod (mVar 2) (mOp fAdd (mOp fPow (mC (.int 10)) (mC (.int 9))) (mC (.int 3)))) (mCons (mOp fMod (mVar 2) (mOp fAdd (mOp fPow (mC (.int 10)) (mC (.int 12))) (mC (.int 1)))) mNil)))))))) (mRet (mOp fIx (mVar 3) (mOp fMod (mCal kInt (mCons (mOp fIx (mVar 1) (mC (.int 0))) mNil)) (mC (.int 6))))))))
def F__law_first : Fn := mFn 1 4 false m__law_first
theorem d__law_first (T : Tx P K mg A) {f : Addr} {fd : FuncData} (Fu : Fun K "_law_first" "_law_first" s__law_first f fd) : FnOk P w K mg base (L2N.CX P w) 3 f fd ["_law_cell_here"] (spF K (cfg A) false false F__law_first) := by
  have hN : (["_law_cell_here", "_law_draws_here", "_law_number", "_law_firsts"] : List Str).Nodup := by decide +kernel
  exact fn_sim (N := ["_law_cell_here", "_law_draws_here", "_law_number", "_law_firsts"]) (ps := ["_law_cell_here"]) (m := m__law_first) (ΓX := []) (Γ' := [false, false, false, false]) rfl Fu ⟨rfl, rfl, rfl, by decide +kernel, rfl, by decide +kernel, by decide +kernel⟩ fun cdv A' outer s H E hr => (sss_cons (ss_set 1 hN (sd_fn (h__law_draws T) (lets (L2N.takes_of rfl rfl rfl rfl)) hr (sds_cons (sd_var 0) (sds_cons sd_int (sds_cons (sd_op op_pow f_pow (sb_of sd_int) (sb_of sd_int)) sds_nil))))) (sss_cons (ss_set 2 hN (sd_calT o_int f_int T.b_int rfl (sbs_cons (sb_of (sd_ix (sb_var 1) (sb_of sd_int))) sbs_nil))) (sss_cons (ss_set 3 hN (sd_lst (sds_cons sd_int (sds_cons (sd_op op_mod f_mod (sb_var 2) (sb_of sd_int)) (sds_cons (sd_op op_pow f_pow (sb_of sd_int) (sb_of sd_int)) (sds_cons (sd_op op_sub f_sub (sb_of (sd_op op_pow f_pow (sb_of sd_int) (sb_of sd_int))) (sb_of (sd_op op_mod f_mod (sb_var 2) (sb_of sd_int)))) (sds_cons (sd_op op_mod f_mod (sb_var 2) (sb_of (sd_op o_add f_add (sb_of (sd_op op_pow f_pow (sb_of sd_int) (sb_of sd_int))) (sb_of sd_int)))) (sds_cons (sd_op op_mod f_mod (sb_var 2) (sb_of (sd_op o_add f_add (sb_of (sd_op op_pow f_pow (sb_of sd_int) (sb_of sd_int))) (sb_of sd_int)))) sds_nil)))))))) (sss_one (ss_ret (sd_ix (sb_var 3) (sb_of (sd_op op_mod f_mod (sb_of (sd_calT o_int f_int T.b_int rfl (sbs_cons (sb_of (sd_ix (sb_var 1) (sb_of sd_int))) sbs_nil))) (sb_of sd_int)))))))))
theorem h__law_first (T : Tx P K mg A) : Has P w K mg base "_law_first" (cfg A) 3 false false ["_law_cell_here"] F__law_first := by
  obtain ⟨f, fd, Fu, hm⟩ := T.f__law_first
  exact ⟨f, fd, hm, Fu.kp, (Fu.binds (ps := ["_law_cell_here"]) fun _ _ _ _ _ _ us hl => match us, hl with | [_], _ => rfl), d__law_first T Fu⟩

def m_Ledger_init : Ms := (mSq (mIf (mOrT (mTst (mOp fLt (mVar 1) (mC (.int 0)))) (mTst (mOp fGt (mVar 1) (mC (.int 1000000000000))))) (mRaise 2 1 (mCons (mVar 1) mNil)) mSkip) (mSq (mSetF 5 0 (mVar 0) (mVar 1)) (mSetF 5 1 (mVar 0) (mLst mNil))))
def F_Ledger_init : Fn := mFn 2 2 false m_Ledger_init
theorem d_Ledger_init (T : Tx P K mg A) {f : Addr} {fd : FuncData} (Fu : Fun K "__init__" "Ledger.__init__" s_Ledger_init f fd) : FnOk P w K mg base (L2N.CX P w) 2 f fd ["self", "coins"] (spF K (cfg A) true false F_Ledger_init) := by
  have hN : (["self", "coins"] : List Str).Nodup := by decide +kernel
  exact fn_sim (N := ["self", "coins"]) (ps := ["self", "coins"]) (m := m_Ledger_init) (ΓX := []) (Γ' := [false, false]) rfl Fu ⟨rfl, rfl, rfl, by decide +kernel, rfl, by decide +kernel, by decide +kernel⟩ fun cdv A' outer s H E hr => (sss_cons (ss_if (Γ' := [false, false]) (st_w (sw_or (st_cmp op_lt f_lt (sb_var 1) (sb_of sd_int)) (sw_or1 (st_cmp op_gt f_gt (sb_var 1) (sb_of (sd_const T.g_MOST_COINS)))))) (sss_one (ss_raise1 rfl (L2N.takes_of rfl rfl rfl rfl) T.es_2 in_coins T.c_BadCoins T.kx_2 (raises_own T.rx_2 T.ty_2) hr (sds_cons (sd_var 1) sds_nil))) sss_nil) (sss_cons (ss_setF 5 0 T.cfg (sd_var 0) (sd_var 1)) (sss_one (ss_ownF 5 1 T.cfg (sd_var 0) (sn_lst sds_nil)))))
theorem h_Ledger_init (T : Tx P K mg A) : HasC P w K mg base "Ledger" 5 (cfg A) 2 true ["self", "coins"] F_Ledger_init := by
  obtain ⟨f, fd, Fu, hi, hf⟩ := T.m_5_init
  exact ⟨f, fd, T.c_Ledger, ⟨T.mk_5, hi, hf, T.kp_5⟩, (Fu.binds (ps := ["self", "coins"]) fun _ _ _ _ _ _ us hl => match us, hl with | [_, _], _ => rfl), d_Ledger_init T Fu⟩
theorem h_Ledger_init_k1 (T : Tx P K mg A) : HasCK P w K mg base "Ledger" 5 (cfg A) 2 true ["self", "coins"] ["coins"] [0] F_Ledger_init := by
  obtain ⟨f, fd, Fu, hi, hf⟩ := T.m_5_init
  exact ⟨f, fd, T.c_Ledger, ⟨T.mk_5, hi, hf, T.kp_5⟩, (Fun.kb Fu (ps := ["self", "coins"]) (ks := ["coins"]) (n := 1) (perm := [0]) fun _ _ _ _ _ _ us ws h1 h2 => match us, ws, h1, h2 with | [_], [_], _, _ => rfl), d_Ledger_init T Fu⟩

def m__law_deed : Ms := (mSq (mPut (tName 3) (mCal kInt (mCons (mOp fIx (mVar 0) (mC (.int 5))) mNil))) (mSq (mPut (tName 4) (mOp fMod (mCal kInt (mCons (mOp fIx (mVar 0) (mC (.int 4))) mNil)) (mC (.int 8)))) (mSq (mPut (tName 5) (mCal kMin2 (mCons (mVar 2) (mCons (mOp fPow (mC (.int 10)) (mC (.int 9))) mNil)))) (mSq (mIf (mTst (mOp fLt (mOp fMod (mCal kInt (mCons (mOp fIx (mVar 0) (mC (.int 1))) mNil)) (mC (.int 8))) (mC (.int 4)))) (mSq (mPut (tName 6) (mOp fIx (mLst (mCons (mC (.str "quiet")) (mCons (mC (.str "odd")) (mCons (mC (.str "edge")) (mCons (mC (.str "strife")) mNil))))) (mOp fMod (mOp fFdiv (mCal kInt (mCons (mOp fIx (mVar 0) (mC (.int 3))) mNil)) (mC (.int 24))) (mC (.int 4))))) (mSq (mPut (tName 7) (mLst (mCons (mC (.int 0)) (mCons (mVar 5) (mCons (mCal kMin2 (mCons (mOp fAdd (mVar 2) (mC (.int 1))) (mCons (mOp fPow (mC (.int 10)) (mC (.int 9))) mNil))) (mCons (mOp fMod (mVar 3) (mC (.int 21))) (mCons (mOp fMod (mVar 3) (mOp fAdd (mOp fPow (mC (.int 10)) (mC (.int 9))) (mC (.int 1)))) (mCons (mOp fPow (mC (.int 10)) (mC (.int 9))) (mCons (mCal kMax2 (mCons (mOp fSub (mVar 5) (mC (.int 1))) (mCons (mC (.int 0)) mNil))) mNil))))))))) (mSq (mPut (tName 7) (mOp fAdd (mVar 7) (mLst (mCons (mOp fMod (mVar 3) (mOp fAdd (mVar 5) (mC (.int 1)))) mNil)))) (mRet (mTup (mCons (mC (.str "pay")) (mCons (mOp fIx (mVar 1) (mOp fMod (mCal kInt (mCons (mOp fIx (mVar 0) (mC (.int 2))) mNil)) (mC (.int 3)))) (mCons (mOp fMod (mCal kInt (mCons (mOp fIx (mVar 0) (mC (.int 3))) mNil)) (mC (.int 24))) (mCons (mVar 6) (mCons (mOp fIx (mVar 7) (mVar 4)) mNil)))))))))) mSkip) (mSq (mIf (mTst (mOp fLt (mOp fMod (mCal kInt (mCons (mOp fIx (mVar 0) (mC (.int 1))) mNil)) (mC (.int 8))) (mC (.int 6)))) (mSq (mPut (tName 8) (mLst (mCons (mC (.int 0)) (mCons (mOp fSub (mUn fNeg (mC (.int 1))) (mOp fMod (mVar 3) (mOp fPow (mC (.int 10)) (mC (.int 9))))) (mCons (mOp fPow (mC (.int 10)) (mC (.int 9))) (mCons (mOp fAdd (mOp fAdd (mOp fPow (mC (.int 10)) (mC (.int 9))) (mC (.int 1))) (mOp fMod (mVar 3) (mOp fPow (mC (.int 10)) (mC (.int 9))))) (mCons (mOp fAdd (mC (.int 1)) (mOp fMod (mVar 3) (mC (.int 21)))) mNil))))))) (mSq (mPut (tName 8) (mOp fAdd (mVar 8) (mLst (mCons (mOp fAdd (mC (.int 1)) (mOp fMod (mVar 3) (mOp fPow (mC (.int 10)) (mC (.int 9))))) (mCons (mOp fSub (mOp fPow (mC (.int 10)) (mC (.int 12))) (mVar 2)) (mCons (mOp fAdd (mOp fSub (mOp fPow (mC (.int 10)) (mC (.int 12))) (mVar 2)) (mC (.int 1))) mNil)))))) (mRet (mTup (mCons (mC (.str "pay_in")) (mCons (mOp fIx (mVar 8) (mVar 4)) mNil)))))) mSkip) (mRet (mTup (mCons (mC (.str "take_back")) (mCons (mC (.int 0)) mNil)))))))))
def F__law_deed : Fn := mFn 3 9 false m__law_deed
theorem d__law_deed (T : Tx P K mg A) {f : Addr} {fd : FuncData} (Fu : Fun K "_law_deed" "_law_deed" s__law_deed f fd) : FnOk P w K mg base (L2N.CX P w) 1 f fd ["_law_draws_here", "_law_words_here", "_law_left"] (spF K (cfg A) false false F__law_deed) := by
  have hN : (["_law_draws_here", "_law_words_here", "_law_left", "_law_number", "_law_choice", "_law_most", "_law_kind", "_law_costs", "_law_sums"] : List Str).Nodup := by decide +kernel
  exact fn_sim (N := ["_law_draws_here", "_law_words_here", "_law_left", "_law_number", "_law_choice", "_law_most", "_law_kind", "_law_costs", "_law_sums"]) (ps := ["_law_draws_here", "_law_words_here", "_law_left"]) (m := m__law_deed) (ΓX := []) (Γ' := [false, false, false, false, false, false, false, false, false]) rfl Fu ⟨rfl, rfl, rfl, by decide +kernel, rfl, by decide +kernel, by decide +kernel⟩ fun cdv A' outer s H E hr => (sss_cons (ss_set 3 hN (sd_calT o_int f_int T.b_int rfl (sbs_cons (sb_of (sd_ix (sb_var 0) (sb_of sd_int))) sbs_nil))) (sss_cons (ss_set 4 hN (sd_op op_mod f_mod (sb_of (sd_calT o_int f_int T.b_int rfl (sbs_cons (sb_of (sd_ix (sb_var 0) (sb_of sd_int))) sbs_nil))) (sb_of sd_int))) (sss_cons (ss_set 5 hN (sd_calB (call_min2 rfl) f_min2 T.b_min rfl (sbs_cons (sb_var 2) (sbs_cons (sb_of (sd_op op_pow f_pow (sb_of sd_int) (sb_of sd_int))) sbs_nil)))) (sss_cons (ss_if (Γ' := [false, false, false, false, false, false, false, false, false]) (st_cmp op_lt f_lt (sb_of (sd_op op_mod f_mod (sb_of (sd_calT o_int f_int T.b_int rfl (sbs_cons (sb_of (sd_ix (sb_var 0) (sb_of sd_int))) sbs_nil))) (sb_of sd_int))) (sb_of sd_int)) (sss_cons (ss_set 6 hN (sd_ix (sb_of (sd_lst (sds_cons sd_str (sds_cons sd_str (sds_cons sd_str (sds_cons sd_str sds_nil)))))) (sb_of (sd_op op_mod f_mod (sb_of (sd_op op_fdivW f_fdiv (sb_of (sd_calT o_int f_int T.b_int rfl (sbs_cons (sb_of (sd_ix (sb_var 0) (sb_of sd_int))) sbs_nil))) (sb_of sd_int))) (sb_of sd_int))))) (sss_cons (ss_set 7 hN (sd_lst (sds_cons sd_int (sds_cons (sd_var 5) (sds_cons (sd_calB (call_min2 rfl) f_min2 T.b_min rfl (sbs_cons (sb_of (sd_op o_add f_add (sb_var 2) (sb_of sd_int))) (sbs_cons (sb_of (sd_op op_pow f_pow (sb_of sd_int) (sb_of sd_int))) sbs_nil))) (sds_cons (sd_op op_mod f_mod (sb_var 3) (sb_of sd_int)) (sds_cons (sd_op op_mod f_mod (sb_var 3) (sb_of (sd_op o_add f_add (sb_of (sd_op op_pow f_pow (sb_of sd_int) (sb_of sd_int))) (sb_of sd_int)))) (sds_cons (sd_op op_pow f_pow (sb_of sd_int) (sb_of sd_int)) (sds_cons (sd_calB (call_max2 rfl) f_max2 T.b_max rfl (sbs_cons (sb_of (sd_op op_sub f_sub (sb_var 5) (sb_of sd_int))) (sbs_cons (sb_of sd_int) sbs_nil))) sds_nil))))))))) (sss_cons (ss_set 7 hN (sd_op o_add f_add (sb_var 7) (sb_of (sd_lst (sds_cons (sd_op op_mod f_mod (sb_var 3) (sb_of (sd_op o_add f_add (sb_var 5) (sb_of sd_int)))) sds_nil))))) (sss_one (ss_ret (sd_tup (sds_cons sd_str (sds_cons (sd_ix (sb_var 1) (sb_of (sd_op op_mod f_mod (sb_of (sd_calT o_int f_int T.b_int rfl (sbs_cons (sb_of (sd_ix (sb_var 0) (sb_of sd_int))) sbs_nil))) (sb_of sd_int)))) (sds_cons (sd_op op_mod f_mod (sb_of (sd_calT o_int f_int T.b_int rfl (sbs_cons (sb_of (sd_ix (sb_var 0) (sb_of sd_int))) sbs_nil))) (sb_of sd_int)) (sds_cons (sd_var 6) (sds_cons (sd_ix (sb_var 7) (sb_var 4)) sds_nil))))))))))) sss_nil) (sss_cons (ss_if (Γ' := [false, false, false, false, false, false, false, false, false]) (st_cmp op_lt f_lt (sb_of (sd_op op_mod f_mod (sb_of (sd_calT o_int f_int T.b_int rfl (sbs_cons (sb_of (sd_ix (sb_var 0) (sb_of sd_int))) sbs_nil))) (sb_of sd_int))) (sb_of sd_int)) (sss_cons (ss_set 8 hN (sd_lst (sds_cons sd_int (sds_cons (sd_op op_sub f_sub (sb_of (sd_un un_neg f_neg (sb_of sd_int))) (sb_of (sd_op op_mod f_mod (sb_var 3) (sb_of (sd_op op_pow f_pow (sb_of sd_int) (sb_of sd_int)))))) (sds_cons (sd_op op_pow f_pow (sb_of sd_int) (sb_of sd_int)) (sds_cons (sd_op o_add f_add (sb_of (sd_op o_add f_add (sb_of (sd_op op_pow f_pow (sb_of sd_int) (sb_of sd_int))) (sb_of sd_int))) (sb_of (sd_op op_mod f_mod (sb_var 3) (sb_of (sd_op op_pow f_pow (sb_of sd_int) (sb_of sd_int)))))) (sds_cons (sd_op o_add f_add (sb_of sd_int) (sb_of (sd_op op_mod f_mod (sb_var 3) (sb_of sd_int)))) sds_nil))))))) (sss_cons (ss_set 8 hN (sd_op o_add f_add (sb_var 8) (sb_of (sd_lst (sds_cons (sd_op o_add f_add (sb_of sd_int) (sb_of (sd_op op_mod f_mod (sb_var 3) (sb_of (sd_op op_pow f_pow (sb_of sd_int) (sb_of sd_int)))))) (sds_cons (sd_op op_sub f_sub (sb_of (sd_op op_pow f_pow (sb_of sd_int) (sb_of sd_int))) (sb_var 2)) (sds_cons (sd_op o_add f_add (sb_of (sd_op op_sub f_sub (sb_of (sd_op op_pow f_pow (sb_of sd_int) (sb_of sd_int))) (sb_var 2))) (sb_of sd_int)) sds_nil))))))) (sss_one (ss_ret (sd_tup (sds_cons sd_str (sds_cons (sd_ix (sb_var 8) (sb_var 4)) sds_nil))))))) sss_nil) (sss_one (ss_ret (sd_tup (sds_cons sd_str (sds_cons sd_int sds_nil))))))))))
theorem h__law_deed (T : Tx P K mg A) : Has P w K mg base "_law_deed" (cfg A) 1 false false ["_law_draws_here", "_law_words_here", "_law_left"] F__law_deed := by
  obtain ⟨f, fd, Fu, hm⟩ := T.f__law_deed
  exact ⟨f, fd, hm, Fu.kp, (Fu.binds (ps := ["_law_draws_here", "_law_words_here", "_law_left"]) fun _ _ _ _ _ _ us hl => match us, hl with | [_, _, _], _ => rfl), d__law_deed T Fu⟩

def L0_law_balance : Ms := (mIf (mTru (mUn (fIsi .tuple) (mVar 3))) (mPut (tName 2) (mOp fSub (mVar 2) (mOp fIx (mVar 3) (mC (.int 3))))) (mPut (tName 2) (mOp fAdd (mVar 2) (mVar 3))))
def m__law_balance : Ms := (mSq (mPut (tName 2) (mVar 0)) (mSq (mFor (mSeq (mVar 1)) (tName 3) L0_law_balance) (mRet (mVar 2))))
def F__law_balance : Fn := mFn 2 4 false m__law_balance
theorem d__law_balance (T : Tx P K mg A) {f : Addr} {fd : FuncData} (Fu : Fun K "_law_balance" "_law_balance" s__law_balance f fd) : FnOk P w K mg base (L2N.CX P w) 1 f fd ["_law_first_here", "_law_events"] (spF K (cfg A) false false F__law_balance) := by
  have hN : (["_law_first_here", "_law_events", "_law_left", "_law_event"] : List Str).Nodup := by decide +kernel
  exact fn_sim (N := ["_law_first_here", "_law_events", "_law_left", "_law_event"]) (ps := ["_law_first_here", "_law_events"]) (m := m__law_balance) (ΓX := []) (Γ' := [false, false, false, false]) rfl Fu ⟨rfl, rfl, rfl, by decide +kernel, rfl, by decide +kernel, by decide +kernel⟩ fun cdv A' outer s H E hr => (sss_cons (ss_set 2 hN (sd_var 0)) (sss_cons (ss_for (passes_of rfl) rfl (si_seq (sd_var 1)) (tg_name 3 hN) (sss_one (ss_if (Γ' := [false, false, false, false]) (st_tru (sb_of (sd_isi .tuple (sb_var 3) T.b_isinstance rfl T.b_tuple rfl))) (sss_one (ss_set 2 hN (sd_op op_sub f_sub (sb_var 2) (sb_of (sd_ix (sb_var 3) (sb_of sd_int)))))) (sss_one (ss_set 2 hN (sd_op o_add f_add (sb_var 2) (sb_var 3))))))) (sss_one (ss_ret (sd_var 2)))))
theorem h__law_balance (T : Tx P K mg A) : Has P w K mg base "_law_balance" (cfg A) 1 false false ["_law_first_here", "_law_events"] F__law_balance := by
  obtain ⟨f, fd, Fu, hm⟩ := T.f__law_balance
  exact ⟨f, fd, hm, Fu.kp, (Fu.binds (ps := ["_law_first_here", "_law_events"]) fun _ _ _ _ _ _ us hl => match us, hl with | [_, _], _ => rfl), d__law_balance T Fu⟩

def m__law_due : Ms := (mSq (mPut (tName 3) (mCall F__law_balance (mCons (mVar 1) (mCons (mVar 2) mNil)))) (mSq (mIf (mTst (mOp fEq (mOp fIx (mVar 0) (mC (.int 0))) (mC (.str "pay")))) (mSq (mIf (mTst (mOp fGt (mOp fIx (mVar 0) (mC (.int 4))) (mVar 3))) (mRet (mTup (mCons (mC (.str "NoCoins")) (mCons (mOp fIx (mVar 0) (mC (.int 4))) (mCons (mVar 3) mNil))))) mSkip) (mRet (mTup (mCons (mC (.str "ok")) (mCons (mC .non) mNil))))) mSkip) (mSq (mIf (mTst (mOp fEq (mOp fIx (mVar 0) (mC (.int 0))) (mC (.str "pay_in")))) (mSq (mIf (mOrT (mTst (mOp fLt (mOp fIx (mVar 0) (mC (.int 1))) (mC (.int 1)))) (mOrT (mTst (mOp fGt (mOp fIx (mVar 0) (mC (.int 1))) (mOp fPow (mC (.int 10)) (mC (.int 9))))) (mTst (mOp fGt (mOp fAdd (mVar 3) (mOp fIx (mVar 0) (mC (.int 1)))) (mOp fPow (mC (.int 10)) (mC (.int 12))))))) (mRet (mTup (mCons (mC (.str "BadCoins")) (mCons (mOp fIx (mVar 0) (mC (.int 1))) mNil)))) mSkip) (mRet (mTup (mCons (mC (.str "ok")) (mCons (mC .non) mNil))))) mSkip) (mSq (mIf (mTst (mOp fEq (mVar 2) (mLst mNil))) (mRet (mTup (mCons (mC (.str "NothingToUndo")) (mCons (mC .non) mNil)))) mSkip) (mRet (mTup (mCons (mC (.str "ok")) (mCons (mOp fIx (mVar 2) (mUn fNeg (mC (.int 1)))) mNil))))))))
def F__law_due : Fn := mFn 3 4 false m__law_due
theorem d__law_due (T : Tx P K mg A) {f : Addr} {fd : FuncData} (Fu : Fun K "_law_due" "_law_due" s__law_due f fd) : FnOk P w K mg base (L2N.CX P w) 2 f fd ["_law_deed_here", "_law_first_here", "_law_events"] (spF K (cfg A) false false F__law_due) := by
  have hN : (["_law_deed_here", "_law_first_here", "_law_events", "_law_left"] : List Str).Nodup := by decide +kernel
  exact fn_sim (N := ["_law_deed_here", "_law_first_here", "_law_events", "_law_left"]) (ps := ["_law_deed_here", "_law_first_here", "_law_events"]) (m := m__law_due) (ΓX := []) (Γ' := [false, false, false, false]) rfl Fu ⟨rfl, rfl, rfl, by decide +kernel, rfl, by decide +kernel, by decide +kernel⟩ fun cdv A' outer s H E hr => (sss_cons (ss_set 3 hN (sd_fn (h__law_balance T) (lets (L2N.takes_of rfl rfl rfl rfl)) hr (sds_cons (sd_var 1) (sds_cons (sd_var 2) sds_nil)))) (sss_cons (ss_if (Γ' := [false, false, false, false]) (st_cmp (o_eq (Room.units hr)) f_eq (sb_of (sd_ix (sb_var 0) (sb_of sd_int))) (sb_of sd_str)) (sss_cons (ss_if (Γ' := [false, false, false, false]) (st_cmp op_gt f_gt (sb_of (sd_ix (sb_var 0) (sb_of sd_int))) (sb_var 3)) (sss_one (ss_ret (sd_tup (sds_cons sd_str (sds_cons (sd_ix (sb_var 0) (sb_of sd_int)) (sds_cons (sd_var 3) sds_nil)))))) sss_nil) (sss_one (ss_ret (sd_tup (sds_cons sd_str (sds_cons sd_non sds_nil)))))) sss_nil) (sss_cons (ss_if (Γ' := [false, false, false, false]) (st_cmp (o_eq (Room.units hr)) f_eq (sb_of (sd_ix (sb_var 0) (sb_of sd_int))) (sb_of sd_str)) (sss_cons (ss_if (Γ' := [false, false, false, false]) (st_w (sw_or (st_cmp op_lt f_lt (sb_of (sd_ix (sb_var 0) (sb_of sd_int))) (sb_of sd_int)) (sw_or (st_cmp op_gt f_gt (sb_of (sd_ix (sb_var 0) (sb_of sd_int))) (sb_of (sd_op op_pow f_pow (sb_of sd_int) (sb_of sd_int)))) (sw_or1 (st_cmp op_gt f_gt (sb_of (sd_op o_add f_add (sb_var 3) (sb_of (sd_ix (sb_var 0) (sb_of sd_int))))) (sb_of (sd_op op_pow f_pow (sb_of sd_int) (sb_of sd_int)))))))) (sss_one (ss_ret (sd_tup (sds_cons sd_str (sds_cons (sd_ix (sb_var 0) (sb_of sd_int)) sds_nil))))) sss_nil) (sss_one (ss_ret (sd_tup (sds_cons sd_str (sds_cons sd_non sds_nil)))))) sss_nil) (sss_cons (ss_if (Γ' := [false, false, false, false]) (st_cmp (o_eq (Room.units hr)) f_eq (sb_var 2) (sb_of (sd_lst sds_nil))) (sss_one (ss_ret (sd_tup (sds_cons sd_str (sds_cons sd_non sds_nil))))) sss_nil) (sss_one (ss_ret (sd_tup (sds_cons sd_str (sds_cons (sd_ix (sb_var 2) (sb_of (sd_un un_neg f_neg (sb_of sd_int)))) sds_nil)))))))))
theorem h__law_due (T : Tx P K mg A) : Has P w K mg base "_law_due" (cfg A) 2 false false ["_law_deed_here", "_law_first_here", "_law_events"] F__law_due := by
  obtain ⟨f, fd, Fu, hm⟩ := T.f__law_due
  exact ⟨f, fd, hm, Fu.kp, (Fu.binds (ps := ["_law_deed_here", "_law_first_here", "_law_events"]) fun _ _ _ _ _ _ us hl => match us, hl with | [_, _, _], _ => rfl), d__law_due T Fu⟩

def m__law_behind : Ms := (mSq (mIf (mTst (mOp fNe (mOp fIx (mVar 1) (mC (.int 0))) (mC (.str "ok")))) (mRet (mVar 2)) mSkip) (mSq (mIf (mTst (mOp fEq (mOp fIx (mVar 0) (mC (.int 0))) (mC (.str "pay")))) (mRet (mOp fAdd (mVar 2) (mLst (mCons (mTup (mCons (mOp fIx (mVar 0) (mC (.int 1))) (mCons (mOp fIx (mVar 0) (mC (.int 2))) (mCons (mOp fIx (mVar 0) (mC (.int 3))) (mCons (mOp fIx (mVar 0) (mC (.int 4))) mNil))))) mNil)))) mSkip) (mSq (mIf (mTst (mOp fEq (mOp fIx (mVar 0) (mC (.int 0))) (mC (.str "pay_in")))) (mRet (mOp fAdd (mVar 2) (mLst (mCons (mOp fIx (mVar 0) (mC (.int 1))) mNil)))) mSkip) (mRet (mSl (mVar 2) none (some (mUn fNeg (mC (.int 1)))))))))
def F__law_behind : Fn := mFn 3 3 false m__law_behind
theorem d__law_behind (T : Tx P K mg A) {f : Addr} {fd : FuncData} (Fu : Fun K "_law_behind" "_law_behind" s__law_behind f fd) : FnOk P w K mg base (L2N.CX P w) 1 f fd ["_law_deed_here", "_law_due_here", "_law_events"] (spF K (cfg A) false false F__law_behind) := by
  have hN : (["_law_deed_here", "_law_due_here", "_law_events"] : List Str).Nodup := by decide +kernel
  exact fn_sim (N := ["_law_deed_here", "_law_due_here", "_law_events"]) (ps := ["_law_deed_here", "_law_due_here", "_law_events"]) (m := m__law_behind) (ΓX := []) (Γ' := [false, false, false]) rfl Fu ⟨rfl, rfl, rfl, by decide +kernel, rfl, by decide +kernel, by decide +kernel⟩ fun cdv A' outer s H E hr => (sss_cons (ss_if (Γ' := [false, false, false]) (st_cmp (o_ne (Room.units hr)) f_ne (sb_of (sd_ix (sb_var 1) (sb_of sd_int))) (sb_of sd_str)) (sss_one (ss_ret (sd_var 2))) sss_nil) (sss_cons (ss_if (Γ' := [false, false, false]) (st_cmp (o_eq (Room.units hr)) f_eq (sb_of (sd_ix (sb_var 0) (sb_of sd_int))) (sb_of sd_str)) (sss_one (ss_ret (sd_op o_add f_add (sb_var 2) (sb_of (sd_lst (sds_cons (sd_tup (sds_cons (sd_ix (sb_var 0) (sb_of sd_int)) (sds_cons (sd_ix (sb_var 0) (sb_of sd_int)) (sds_cons (sd_ix (sb_var 0) (sb_of sd_int)) (sds_cons (sd_ix (sb_var 0) (sb_of sd_int)) sds_nil))))) sds_nil)))))) sss_nil) (sss_cons (ss_if (Γ' := [false, false, false]) (st_cmp (o_eq (Room.units hr)) f_eq (sb_of (sd_ix (sb_var 0) (sb_of sd_int))) (sb_of sd_str)) (sss_one (ss_ret (sd_op o_add f_add (sb_var 2) (sb_of (sd_lst (sds_cons (sd_ix (sb_var 0) (sb_of sd_int)) sds_nil)))))) sss_nil) (sss_one (ss_ret (sd_sl (sb_var 2) SP.none (SP.some (sd_un un_neg f_neg (sb_of sd_int)))))))))
theorem h__law_behind (T : Tx P K mg A) : Has P w K mg base "_law_behind" (cfg A) 1 false false ["_law_deed_here", "_law_due_here", "_law_events"] F__law_behind := by
  obtain ⟨f, fd, Fu, hm⟩ := T.f__law_behind
  exact ⟨f, fd, hm, Fu.kp, (Fu.binds (ps := ["_law_deed_here", "_law_due_here", "_law_events"]) fun _ _ _ _ _ _ us hl => match us, hl with | [_, _, _], _ => rfl), d__law_behind T Fu⟩

def m__law_is_integer : Ms := (mRet (mAnd (mUn (fIsi .int) (mVar 0)) (mNot (mUn (fIsi .bool) (mVar 0)))))
def F__law_is_integer : Fn := mFn 1 1 false m__law_is_integer
theorem d__law_is_integer (T : Tx P K mg A) {f : Addr} {fd : FuncData} (Fu : Fun K "_law_is_integer" "_law_is_integer" s__law_is_integer f fd) : FnOk P w K mg base (L2N.CX P w) 1 f fd ["_law_actual"] (spF K (cfg A) false false F__law_is_integer) := by
  have hN : (["_law_actual"] : List Str).Nodup := by decide +kernel
  exact fn_sim (N := ["_law_actual"]) (ps := ["_law_actual"]) (m := m__law_is_integer) (ΓX := []) (Γ' := [false]) rfl Fu ⟨rfl, rfl, rfl, by decide +kernel, rfl, by decide +kernel, by decide +kernel⟩ fun cdv A' outer s H E hr => (sss_one (ss_ret (sd_and (sd_isi .int (sb_var 0) T.b_isinstance rfl T.b_int rfl) (sd_and1 (sd_not (sb_of (sd_isi .bool (sb_var 0) T.b_isinstance rfl T.b_bool rfl)))))))
theorem h__law_is_integer (T : Tx P K mg A) : Has P w K mg base "_law_is_integer" (cfg A) 1 false false ["_law_actual"] F__law_is_integer := by
  obtain ⟨f, fd, Fu, hm⟩ := T.f__law_is_integer
  exact ⟨f, fd, hm, Fu.kp, (Fu.binds (ps := ["_law_actual"]) fun _ _ _ _ _ _ us hl => match us, hl with | [_], _ => rfl), d__law_is_integer T Fu⟩

def m__law_is_integer_hot : Ms := (mRet (mAnd (mUn (fIsi .int) (mVar 0)) (mNot (mUn (fIsi .bool) (mVar 0)))))
def F__law_is_integer_hot : Fn := mFn 1 1 false m__law_is_integer_hot
theorem d__law_is_integer_hot (T : Tx P K mg A) {f : Addr} {fd : FuncData} (Fu : Fun K "_law_is_integer" "_law_is_integer" s__law_is_integer f fd) : L2H.FnH P w K mg base (L2N.CX P w) 1 f fd ["_law_actual"] (spF K (cfg A) false false F__law_is_integer_hot) := by
  have hN : (["_law_actual"] : List Str).Nodup := by decide +kernel
  exact fn_simH (N := ["_law_actual"]) (ps := ["_law_actual"]) (m := m__law_is_integer_hot) (ΓX := []) (Γ' := [false]) rfl Fu ⟨rfl, rfl, rfl, by decide +kernel, rfl, by decide +kernel, by decide +kernel⟩ fun cdv A' outer s H E p hot1 hr => by
    have hot := hot_cxH (CX := L2N.CX P w) (P := P) (w := w) (K := K) (mg := mg) (base := base) (N := ["_law_actual"]) (qual := "_law_is_integer") (scope := defScope s__law_is_integer) (f := f) (cd := cdv) (outer := outer) (s := s) (H := H) (E := E) hot1
    exact (sss_one (ss_ret (sd_and (sd_isi .int (sb_var 0) T.b_isinstance rfl T.b_int rfl) (sd_and1 (sd_not (sb_of (sd_isi .bool (sb_var 0) T.b_isinstance rfl T.b_bool rfl)))))))
theorem h__law_is_integer_hot (T : Tx P K mg A) : HasH P w K mg base "_law_is_integer" (cfg A) 1 false ["_law_actual"] F__law_is_integer_hot := by
  obtain ⟨f, fd, Fu, hm⟩ := T.f__law_is_integer
  exact ⟨f, fd, hm, Fu.kp, (Fu.binds (ps := ["_law_actual"]) fun _ _ _ _ _ _ us hl => match us, hl with | [_], _ => rfl), d__law_is_integer_hot T Fu⟩

def L0_law_same (F : Fn) : Ms := (mIf (mNotT (mTru (mCall F (mCons (mOp fIx (mVar 0) (mVar 2)) (mCons (mOp fIx (mVar 1) (mVar 2)) mNil))))) (mRet (mC (.bl false))) mSkip)
def m__law_same (F : Fn) : Ms := (mSq (mIf (mTst (mOp fIs (mVar 1) (mC .non))) (mRet (mOp fIs (mVar 0) (mC .non))) mSkip) (mSq (mIf (mTst (mOp fIs (mVar 1) (mC (.bl true)))) (mRet (mOp fIs (mVar 0) (mC (.bl true)))) mSkip) (mSq (mIf (mTst (mOp fIs (mVar 1) (mC (.bl false)))) (mRet (mOp fIs (mVar 0) (mC (.bl false)))) mSkip) (mSq (mIf (mTru (mUn (fIsi .int) (mVar 1))) (mRet (mAnd (mCall F__law_is_integer (mCons (mVar 0) mNil)) (mOp fEq (mVar 0) (mVar 1)))) mSkip) (mSq (mIf (mTru (mUn (fIsi .str) (mVar 1))) (mRet (mAnd (mUn (fIsi .str) (mVar 0)) (mOp fEq (mVar 0) (mVar 1)))) mSkip) (mSq (mIf (mOrT (mTst (mOp fNe (mUn (fIsi .list) (mVar 1)) (mUn (fIsi .list) (mVar 0)))) (mTst (mOp fNe (mUn (fIsi .tuple) (mVar 1)) (mUn (fIsi .tuple) (mVar 0))))) (mRet (mC (.bl false))) mSkip) (mSq (mIf (mAndT (mNotT (mTru (mUn (fIsi .list) (mVar 0)))) (mNotT (mTru (mUn (fIsi .tuple) (mVar 0))))) (mRet (mC (.bl false))) mSkip) (mSq (mIf (mTst (mOp fNe (mCal kLen (mCons (mVar 0) mNil)) (mCal kLen (mCons (mVar 1) mNil)))) (mRet (mC (.bl false))) mSkip) (mSq (mFor (mRng kRng1 (mCons (mCal kLen (mCons (mVar 1) mNil)) mNil)) (tName 2) (L0_law_same F)) (mRet (mC (.bl true))))))))))))
def F__law_same : Nat → Fn
  | 0 => fun _ _ => .stuck
  | n + 1 => mFn 2 3 false (m__law_same (F__law_same n))
theorem d__law_same (T : Tx P K mg A) {f : Addr} {fd : FuncData} (Fu : Fun K "_law_same" "_law_same" s__law_same f fd) {j : Nat} {F : Fn} (ih : Has P w K mg base "_law_same" (cfg A) (j + 2) false false ["_law_actual", "_law_expected"] F) : FnOk P w K mg base (L2N.CX P w) (j + 2 + 1) f fd ["_law_actual", "_law_expected"] (spF K (cfg A) false false (mFn 2 3 false (m__law_same F))) := by
  have hN : (["_law_actual", "_law_expected", "_law_k"] : List Str).Nodup := by decide +kernel
  exact fn_sim (N := ["_law_actual", "_law_expected", "_law_k"]) (ps := ["_law_actual", "_law_expected"]) (m := m__law_same F) (ΓX := []) (Γ' := [false, false, false]) rfl Fu ⟨rfl, rfl, rfl, by decide +kernel, rfl, by decide +kernel, by decide +kernel⟩ fun cdv A' outer s H E hr => (sss_cons (ss_if (Γ' := [false, false, false]) (st_cmp o_is f_is (sb_var 1) (sb_of sd_non)) (sss_one (ss_ret (sd_cmp o_is f_is (sb_var 0) (sb_of sd_non)))) sss_nil) (sss_cons (ss_if (Γ' := [false, false, false]) (st_cmp o_is f_is (sb_var 1) (sb_of sd_bl)) (sss_one (ss_ret (sd_cmp o_is f_is (sb_var 0) (sb_of sd_bl)))) sss_nil) (sss_cons (ss_if (Γ' := [false, false, false]) (st_cmp o_is f_is (sb_var 1) (sb_of sd_bl)) (sss_one (ss_ret (sd_cmp o_is f_is (sb_var 0) (sb_of sd_bl)))) sss_nil) (sss_cons (ss_if (Γ' := [false, false, false]) (st_tru (sb_of (sd_isi .int (sb_var 1) T.b_isinstance rfl T.b_int rfl))) (sss_one (ss_ret (sd_and (sd_fn (h__law_is_integer T) (lets (L2N.takes_of rfl rfl rfl rfl)) hr (sds_cons (sd_var 0) sds_nil)) (sd_and1 (sd_cmp (o_eq (Room.units hr)) f_eq (sb_var 0) (sb_var 1)))))) sss_nil) (sss_cons (ss_if (Γ' := [false, false, false]) (st_tru (sb_of (sd_isi .str (sb_var 1) T.b_isinstance rfl T.b_str rfl))) (sss_one (ss_ret (sd_and (sd_isi .str (sb_var 0) T.b_isinstance rfl T.b_str rfl) (sd_and1 (sd_cmp (o_eq (Room.units hr)) f_eq (sb_var 0) (sb_var 1)))))) sss_nil) (sss_cons (ss_if (Γ' := [false, false, false]) (st_w (sw_or (st_cmp (o_ne (Room.units hr)) f_ne (sb_of (sd_isi .list (sb_var 1) T.b_isinstance rfl T.b_list rfl)) (sb_of (sd_isi .list (sb_var 0) T.b_isinstance rfl T.b_list rfl))) (sw_or1 (st_cmp (o_ne (Room.units hr)) f_ne (sb_of (sd_isi .tuple (sb_var 1) T.b_isinstance rfl T.b_tuple rfl)) (sb_of (sd_isi .tuple (sb_var 0) T.b_isinstance rfl T.b_tuple rfl)))))) (sss_one (ss_ret sd_bl)) sss_nil) (sss_cons (ss_if (Γ' := [false, false, false]) (st_w (sw_and (st_not (st_tru (sb_of (sd_isi .list (sb_var 0) T.b_isinstance rfl T.b_list rfl)))) (sw_and1 (st_not (st_tru (sb_of (sd_isi .tuple (sb_var 0) T.b_isinstance rfl T.b_tuple rfl))))))) (sss_one (ss_ret sd_bl)) sss_nil) (sss_cons (ss_if (Γ' := [false, false, false]) (st_cmp (o_ne (Room.units hr)) f_ne (sb_of (sd_calB o_len f_len T.b_len rfl (sbs_cons (sb_var 0) sbs_nil))) (sb_of (sd_calB o_len f_len T.b_len rfl (sbs_cons (sb_var 1) sbs_nil)))) (sss_one (ss_ret sd_bl)) sss_nil) (sss_cons (ss_for (passes_of rfl) rfl (si_range1 (sds_cons (sd_calB o_len f_len T.b_len rfl (sbs_cons (sb_var 1) sbs_nil)) sds_nil) T.b_range) (tg_name 2 hN) (sss_one (ss_if (Γ' := [false, false, false]) (st_not (st_tru (sb_of (sd_fn ih (lets (L2N.takes_of rfl rfl rfl rfl)) hr (sds_cons (sd_ix (sb_var 0) (sb_var 2)) (sds_cons (sd_ix (sb_var 1) (sb_var 2)) sds_nil)))))) (sss_one (ss_ret sd_bl)) sss_nil))) (sss_one (ss_ret sd_bl)))))))))))
theorem h__law_same (T : Tx P K mg A) : ∀ n, Has P w K mg base "_law_same" (cfg A) (n + 2) false false ["_law_actual", "_law_expected"] (F__law_same n)
  | 0 => by
    obtain ⟨f, fd, Fu, hm⟩ := T.f__law_same
    exact ⟨f, fd, hm, Fu.kp, (Fu.binds (ps := ["_law_actual", "_law_expected"]) fun _ _ _ _ _ _ us hl => match us, hl with | [_, _], _ => rfl), fn_stuck⟩
  | n + 1 => by
    obtain ⟨f, fd, Fu, hm⟩ := T.f__law_same
    have z := d__law_same T Fu (h__law_same T n)
    rw [show n + 1 + 2 = n + 2 + 1 by omega]
    exact ⟨f, fd, hm, Fu.kp, (Fu.binds (ps := ["_law_actual", "_law_expected"]) fun _ _ _ _ _ _ us hl => match us, hl with | [_, _], _ => rfl), z⟩

def m__law_same_hot : Ms := (mSq (mIf (mTst (mOp fIs (mVar 1) (mC .non))) (mRet (mOp fIs (mVar 0) (mC .non))) mSkip) (mSq (mIf (mTst (mOp fIs (mVar 1) (mC (.bl true)))) (mRet (mOp fIs (mVar 0) (mC (.bl true)))) mSkip) (mSq (mIf (mTst (mOp fIs (mVar 1) (mC (.bl false)))) (mRet (mOp fIs (mVar 0) (mC (.bl false)))) mSkip) (mSq (mIf (mTru (mUn (fIsi .int) (mVar 1))) (mRet (mAnd (mCall F__law_is_integer_hot (mCons (mVar 0) mNil)) (mOp fEq (mVar 0) (mVar 1)))) mSkip) (mSq (mIf (mTru (mUn (fIsi .str) (mVar 1))) (mRet (mAnd (mUn (fIsi .str) (mVar 0)) (mOp fEq (mVar 0) (mVar 1)))) mSkip) (mSq (mIf (mOrT (mTst (mOp fNe (mUn (fIsi .list) (mVar 1)) (mUn (fIsi .list) (mVar 0)))) (mTst (mOp fNe (mUn (fIsi .tuple) (mVar 1)) (mUn (fIsi .tuple) (mVar 0))))) (mRet (mC (.bl false))) mSkip) (mSq (mIf (mAndT (mNotT (mTru (mUn (fIsi .list) (mVar 0)))) (mNotT (mTru (mUn (fIsi .tuple) (mVar 0))))) (mRet (mC (.bl false))) mSkip) (mSq (mIf (mTst (mOp fNe (mCal kLen (mCons (mVar 0) mNil)) (mCal kLen (mCons (mVar 1) mNil)))) (mRet (mC (.bl false))) mSkip) (mSq (fun _ _ => .stuck) (mRet (mC (.bl true))))))))))))
def F__law_same_hot : Fn := mFn 2 3 false m__law_same_hot
theorem d__law_same_hot (T : Tx P K mg A) {f : Addr} {fd : FuncData} (Fu : Fun K "_law_same" "_law_same" s__law_same f fd) : L2H.FnH P w K mg base (L2N.CX P w) 2 f fd ["_law_actual", "_law_expected"] (spF K (cfg A) false false F__law_same_hot) := by
  have hN : (["_law_actual", "_law_expected", "_law_k"] : List Str).Nodup := by decide +kernel
  exact fn_simH (N := ["_law_actual", "_law_expected", "_law_k"]) (ps := ["_law_actual", "_law_expected"]) (m := m__law_same_hot) (ΓX := []) (Γ' := [false, false, false]) rfl Fu ⟨rfl, rfl, rfl, by decide +kernel, rfl, by decide +kernel, by decide +kernel⟩ fun cdv A' outer s H E p hot1 hr => by
    have hot := hot_cxH (CX := L2N.CX P w) (P := P) (w := w) (K := K) (mg := mg) (base := base) (N := ["_law_actual", "_law_expected", "_law_k"]) (qual := "_law_same") (scope := defScope s__law_same) (f := f) (cd := cdv) (outer := outer) (s := s) (H := H) (E := E) hot1
    exact (sss_cons (ss_if (Γ' := [false, false, false]) (st_cmp o_is f_is (sb_var 1) (sb_of sd_non)) (sss_one (ss_ret (sd_cmp o_is f_is (sb_var 0) (sb_of sd_non)))) sss_nil) (sss_cons (ss_if (Γ' := [false, false, false]) (st_cmp o_is f_is (sb_var 1) (sb_of sd_bl)) (sss_one (ss_ret (sd_cmp o_is f_is (sb_var 0) (sb_of sd_bl)))) sss_nil) (sss_cons (ss_if (Γ' := [false, false, false]) (st_cmp o_is f_is (sb_var 1) (sb_of sd_bl)) (sss_one (ss_ret (sd_cmp o_is f_is (sb_var 0) (sb_of sd_bl)))) sss_nil) (sss_cons (ss_if (Γ' := [false, false, false]) (st_tru (sb_of (sd_isi .int (sb_var 1) T.b_isinstance rfl T.b_int rfl))) (sss_one (ss_ret (sd_and (sd_fnH (j := 1) (h__law_is_integer_hot T) (lets (L2N.takes_of rfl rfl rfl rfl)) hr hot (sds_cons (sd_var 0) sds_nil)) (sd_and1 (sd_cmp (o_eq (room_un hr)) f_eq (sb_var 0) (sb_var 1)))))) sss_nil) (sss_cons (ss_if (Γ' := [false, false, false]) (st_tru (sb_of (sd_isi .str (sb_var 1) T.b_isinstance rfl T.b_str rfl))) (sss_one (ss_ret (sd_and (sd_isi .str (sb_var 0) T.b_isinstance rfl T.b_str rfl) (sd_and1 (sd_cmp (o_eq (room_un hr)) f_eq (sb_var 0) (sb_var 1)))))) sss_nil) (sss_cons (ss_if (Γ' := [false, false, false]) (st_w (sw_or (st_cmp (o_ne (room_un hr)) f_ne (sb_of (sd_isi .list (sb_var 1) T.b_isinstance rfl T.b_list rfl)) (sb_of (sd_isi .list (sb_var 0) T.b_isinstance rfl T.b_list rfl))) (sw_or1 (st_cmp (o_ne (room_un hr)) f_ne (sb_of (sd_isi .tuple (sb_var 1) T.b_isinstance rfl T.b_tuple rfl)) (sb_of (sd_isi .tuple (sb_var 0) T.b_isinstance rfl T.b_tuple rfl)))))) (sss_one (ss_ret sd_bl)) sss_nil) (sss_cons (ss_if (Γ' := [false, false, false]) (st_w (sw_and (st_not (st_tru (sb_of (sd_isi .list (sb_var 0) T.b_isinstance rfl T.b_list rfl)))) (sw_and1 (st_not (st_tru (sb_of (sd_isi .tuple (sb_var 0) T.b_isinstance rfl T.b_tuple rfl))))))) (sss_one (ss_ret sd_bl)) sss_nil) (sss_cons (ss_if (Γ' := [false, false, false]) (st_cmp (o_ne (room_un hr)) f_ne (sb_of (sd_calB o_len f_len T.b_len rfl (sbs_cons (sb_var 0) sbs_nil))) (sb_of (sd_calB o_len f_len T.b_len rfl (sbs_cons (sb_var 1) sbs_nil)))) (sss_one (ss_ret sd_bl)) sss_nil) (sss_cons (ss_stuck (Γ' := [false, false, false])) (sss_one (ss_ret sd_bl)))))))))))
theorem h__law_same_hot (T : Tx P K mg A) : HasH P w K mg base "_law_same" (cfg A) 2 false ["_law_actual", "_law_expected"] F__law_same_hot := by
  obtain ⟨f, fd, Fu, hm⟩ := T.f__law_same
  exact ⟨f, fd, hm, Fu.kp, (Fu.binds (ps := ["_law_actual", "_law_expected"]) fun _ _ _ _ _ _ us hl => match us, hl with | [_, _], _ => rfl), d__law_same_hot T Fu⟩

def m__law_refuses : Ms := (mSq (mTry (mDo (mMk 5 2 F_Ledger_init (mCons (mVar 0) mNil))) [⟨[(0, true), (1, true), (2, true), (3, true), (4, true)], some 1, fun x => (mSq (mIf (mOrT (mTru (mIsX 1 [(0, false), (1, false), (2, false), (3, true), (4, false)] x)) (mOrT (mTru (mIsX 1 [(0, false), (1, false), (2, false), (3, false), (4, true)] x)) (mTru (mIsX 1 [(0, false), (1, true), (2, false), (3, false), (4, false)] x)))) (mRet (mC (.bl false))) mSkip) (mRet (mAnd (mIsX 1 [(0, true), (1, true), (2, true), (3, true), (4, true)] x) (mAnd (mIsX 1 [(0, false), (1, false), (2, true), (3, false), (4, false)] x) (mCall F__law_same_hot (mCons (mXf 1 [(2, 0), (3, 1)] x) (mCons (mVar 0) mNil)))))))⟩]) (mRet (mC (.bl false))))
def F__law_refuses : Fn := mFn 1 2 false m__law_refuses
theorem d__law_refuses (T : Tx P K mg A) {f : Addr} {fd : FuncData} (Fu : Fun K "_law_refuses" "_law_refuses" s__law_refuses f fd) : FnOk P w K mg base (L2N.CX P w) 9 f fd ["_law_number"] (spF K (cfg A) true false F__law_refuses) := by
  have hN : (["_law_number", "e"] : List Str).Nodup := by decide +kernel
  exact fn_sim (N := ["_law_number", "e"]) (ps := ["_law_number"]) (m := m__law_refuses) (ΓX := []) (Γ' := [false, false]) rfl Fu ⟨rfl, rfl, rfl, by decide +kernel, rfl, by decide +kernel, by decide +kernel⟩ fun cdv A' outer s H E hr => (sss_cons (ss_try (cvs := [.ref (A 0)]) (Γh := [false, false]) (Γ' := [false, false]) (L2N.takes_of rfl rfl rfl rfl) (fun W pn xe tk hp => (sss_one (ss_expr (sd_new (h_Ledger_init T) (lets tk) hr (sds_cons (sd_var 0) sds_nil))))) (HMix.as ⟨rfl, by decide, Or.inl T.c_MootError⟩ hN (i := 1) rfl rfl (fun a oe cls d pn hz hf => (su_pss (fun x => (sss_cons (ss_if (Γ' := [false, false]) (st_w (sw_or (st_tru (sb_of (sd_isx [(0, false), (1, false), (2, false), (3, true), (4, false)] rfl (isAt_cons T.ec_0 T.is_0_NoCoins (isAt_cons T.ec_1 T.is_1_NoCoins (isAt_cons T.ec_2 T.is_2_NoCoins (isAt_cons T.ec_3 T.is_3_NoCoins (isAt_cons T.ec_4 T.is_4_NoCoins isAt_nil))))) hz.zc hf T.b_isinstance rfl (pe_own T.c_NoCoins) (fun _ h => h)))) (sw_or (st_tru (sb_of (sd_isx [(0, false), (1, false), (2, false), (3, false), (4, true)] rfl (isAt_cons T.ec_0 T.is_0_BadLine (isAt_cons T.ec_1 T.is_1_BadLine (isAt_cons T.ec_2 T.is_2_BadLine (isAt_cons T.ec_3 T.is_3_BadLine (isAt_cons T.ec_4 T.is_4_BadLine isAt_nil))))) hz.zc hf T.b_isinstance rfl (pe_own T.c_BadLine) (fun _ h => h)))) (sw_or1 (st_tru (sb_of (sd_isx [(0, false), (1, true), (2, false), (3, false), (4, false)] rfl (isAt_cons T.ec_0 T.is_0_NothingToUndo (isAt_cons T.ec_1 T.is_1_NothingToUndo (isAt_cons T.ec_2 T.is_2_NothingToUndo (isAt_cons T.ec_3 T.is_3_NothingToUndo (isAt_cons T.ec_4 T.is_4_NothingToUndo isAt_nil))))) hz.zc hf T.b_isinstance rfl (pe_own T.c_NothingToUndo) (fun _ h => h)))))))) (sss_one (ss_ret sd_bl)) sss_nil) (sss_one (ss_ret (sd_and (sd_isx [(0, true), (1, true), (2, true), (3, true), (4, true)] rfl (isAt_cons T.ec_0 T.is_0_ValueError (isAt_cons T.ec_1 T.is_1_ValueError (isAt_cons T.ec_2 T.is_2_ValueError (isAt_cons T.ec_3 T.is_3_ValueError (isAt_cons T.ec_4 T.is_4_ValueError isAt_nil))))) hz.zc hf T.b_isinstance rfl (pe_bltn (v := .ty "ValueError") rfl T.b_ValueError rfl rfl (by decide) (by decide)) (fun _ h => h)) (sd_and (sd_isx [(0, false), (1, false), (2, true), (3, false), (4, false)] rfl (isAt_cons T.ec_0 T.is_0_BadCoins (isAt_cons T.ec_1 T.is_1_BadCoins (isAt_cons T.ec_2 T.is_2_BadCoins (isAt_cons T.ec_3 T.is_3_BadCoins (isAt_cons T.ec_4 T.is_4_BadCoins isAt_nil))))) hz.zc hf T.b_isinstance rfl (pe_own T.c_BadCoins) (fun _ h => h)) (sd_and1 (sd_fnH (j := 8) (HasH.w (h__law_same_hot T)) lets0 ⟨hr.dp, hr.un⟩ (hot_suite hz hf) (sds_cons (sd_xf [(2, 0), (3, 1)] rfl (xfAt_cons rfl T.xf_2 T.nf_2_coins (xfAt_cons rfl T.xf_3 T.nf_3_coins xfAt_nil)) hz.zc hf) (sds_cons (sd_var 0) sds_nil)))))))))))) HMix.nil) (.cons (okT_cons (exm_of T.ec_0 T.ty_0 T.sb_0_0) (okT_cons (exm_of T.ec_0 T.ty_0 T.sb_1_0) (okT_cons (exm_of T.ec_0 T.ty_0 T.sb_2_0) (okT_cons (exm_of T.ec_0 T.ty_0 T.sb_3_0) (okT_cons (exm_of T.ec_0 T.ty_0 T.sb_4_0) okT_nil))))) .nil)) (sss_one (ss_ret sd_bl)))
theorem h__law_refuses (T : Tx P K mg A) : Has P w K mg base "_law_refuses" (cfg A) 9 true false ["_law_number"] F__law_refuses := by
  obtain ⟨f, fd, Fu, hm⟩ := T.f__law_refuses
  exact ⟨f, fd, hm, Fu.kp, (Fu.binds (ps := ["_law_number"]) fun _ _ _ _ _ _ us hl => match us, hl with | [_], _ => rfl), d__law_refuses T Fu⟩

def CT0_Ledger_payments : Mx Bool := (mTru (mUn (fIsi .tuple) (mVar 1)))
def CE1_Ledger_payments : Mx D := (mVar 1)
def m_Ledger_payments : Ms := (mRet (mLc (mSeq (mFld [(5, 1)] (mVar 0))) (tName 1) CT0_Ledger_payments CE1_Ledger_payments [1]))
def F_Ledger_payments : Fn := mFn 1 2 true m_Ledger_payments
theorem d_Ledger_payments (T : Tx P K mg A) {f : Addr} {fd : FuncData} (Fu : Fun K "payments" "Ledger.payments" s_Ledger_payments f fd) : FnOk P w K mg base (L2N.CX P w) 1 f fd ["self"] (spF K (cfg A) false true F_Ledger_payments) := by
  have hN : (["self", "entry"] : List Str).Nodup := by decide +kernel
  exact fn_sim (N := ["self", "entry"]) (ps := ["self"]) (m := m_Ledger_payments) (ΓX := []) (Γ' := [false, false]) rfl Fu ⟨rfl, rfl, rfl, by decide +kernel, rfl, by decide +kernel, by decide +kernel⟩ fun cdv A' outer s H E hr => (sss_one (ss_retNw (sn_lc (tt := tDb K _ _ _) (own := [("entry", 1)]) rfl hN (si_seqB (sb_fld [(5, 1)] T.cfg (sd_var 0))) (by show BlkOk ["self", "entry"] (defScope s_Ledger_payments) _ _; exact ⟨rfl, by decide +kernel, by decide +kernel, by decide +kernel, by decide +kernel⟩) (fun s H C cl fp => (tg_name 1 hN)) (fun s H C cl fp => (sts_one (st_tru (sb_of (sd_isi .tuple (sb_var 1) T.b_isinstance rfl T.b_tuple rfl))))) (fun s H C cl fp => (sd_var 1)))))
theorem h_Ledger_payments (T : Tx P K mg A) : HasM P w K mg base 5 "payments" (cfg A) 1 false true ["self"] F_Ledger_payments := by
  obtain ⟨f, fd, Fu, hi⟩ := T.m_5_payments
  exact ⟨f, fd, ⟨T.cl_5, hi, by show _ ∉ fl0 5; decide +kernel⟩, (Fu.binds (ps := ["self"]) fun _ _ _ _ _ _ us hl => match us, hl with | [_], _ => rfl), d_Ledger_payments T Fu⟩

def m_Ledger_balance : Ms := (mRet (mFld [(5, 0)] (mVar 0)))
def F_Ledger_balance : Fn := mFn 1 1 false m_Ledger_balance
theorem d_Ledger_balance (T : Tx P K mg A) {f : Addr} {fd : FuncData} (Fu : Fun K "balance" "Ledger.balance" s_Ledger_balance f fd) : FnOk P w K mg base (L2N.CX P w) 1 f fd ["self"] (spF K (cfg A) false false F_Ledger_balance) := by
  have hN : (["self"] : List Str).Nodup := by decide +kernel
  exact fn_sim (N := ["self"]) (ps := ["self"]) (m := m_Ledger_balance) (ΓX := []) (Γ' := [false]) rfl Fu ⟨rfl, rfl, rfl, by decide +kernel, rfl, by decide +kernel, by decide +kernel⟩ fun cdv A' outer s H E hr => (sss_one (ss_ret (sd_fld [(5, 0)] T.cfg (sd_var 0))))
theorem h_Ledger_balance (T : Tx P K mg A) : HasM P w K mg base 5 "balance" (cfg A) 1 false false ["self"] F_Ledger_balance := by
  obtain ⟨f, fd, Fu, hi⟩ := T.m_5_balance
  exact ⟨f, fd, ⟨T.cl_5, hi, by show _ ∉ fl0 5; decide +kernel⟩, (Fu.binds (ps := ["self"]) fun _ _ _ _ _ _ us hl => match us, hl with | [_], _ => rfl), d_Ledger_balance T Fu⟩

def CT0_Ledger_spent : Mx Bool := (mTst (mOp fEq (mOp fIx (mVar 2) (mC (.int 0))) (mVar 1)))
def CE1_Ledger_spent : Mx D := (mOp fIx (mVar 2) (mC (.int 3)))
def m_Ledger_spent : Ms := (mRet (mCal kSum (mCons (mLc (mSeq (mMeth [(5, F_Ledger_payments)] (mVar 0) mNil)) (tName 2) CT0_Ledger_spent CE1_Ledger_spent [2]) mNil)))
def F_Ledger_spent : Fn := mFn 2 3 false m_Ledger_spent
theorem d_Ledger_spent (T : Tx P K mg A) {f : Addr} {fd : FuncData} (Fu : Fun K "spent" "Ledger.spent" s_Ledger_spent f fd) : FnOk P w K mg base (L2N.CX P w) 2 f fd ["self", "name"] (spF K (cfg A) false false F_Ledger_spent) := by
  have hN : (["self", "name", "entry"] : List Str).Nodup := by decide +kernel
  exact fn_sim (N := ["self", "name", "entry"]) (ps := ["self", "name"]) (m := m_Ledger_spent) (ΓX := []) (Γ' := [false, false, false]) rfl Fu ⟨rfl, rfl, rfl, by decide +kernel, rfl, by decide +kernel, by decide +kernel⟩ fun cdv A' outer s H E hr => (sss_one (ss_ret (sd_calB (cr_sum rfl) f_sum T.b_sum rfl (sbs_cons (sb_of (sd_lc (tt := tDb K _ _ _) (own := [("entry", 2)]) rfl hN (si_seqB (sb_of (sd_of_sn (sn_meth0 (lets (L2N.takes_of rfl rfl rfl rfl)) (sd_var 0) (mok (h_Ledger_payments T) hr))))) (by show BlkOk ["self", "name", "entry"] (defScope s_Ledger_spent) _ _; exact ⟨rfl, by decide +kernel, by decide +kernel, by decide +kernel, by decide +kernel⟩) (fun s H C cl fp => (tg_name 2 hN)) (fun s H C cl fp => (sts_one (st_cmp (o_eq (Room.units hr)) f_eq (sb_of (sd_ix (sb_var 2) (sb_of sd_int))) (sb_var 1)))) (fun s H C cl fp => (sd_ix (sb_var 2) (sb_of sd_int))))) sbs_nil))))
theorem h_Ledger_spent (T : Tx P K mg A) : HasM P w K mg base 5 "spent" (cfg A) 2 false false ["self", "name"] F_Ledger_spent := by
  obtain ⟨f, fd, Fu, hi⟩ := T.m_5_spent
  exact ⟨f, fd, ⟨T.cl_5, hi, by show _ ∉ fl0 5; decide +kernel⟩, (Fu.binds (ps := ["self", "name"]) fun _ _ _ _ _ _ us hl => match us, hl with | [_, _], _ => rfl), d_Ledger_spent T Fu⟩

def CT0_law_tells : Mx Bool := (mTru (mUn (fIsi .tuple) (mVar 8)))
def CE1_law_tells : Mx D := (mVar 8)
def CT2_law_tells : Mx Bool := (mTst (mOp fEq (mOp fIx (mVar 8) (mC (.int 0))) (mVar 6)))
def CE3_law_tells : Mx D := (mOp fIx (mVar 8) (mC (.int 3)))
def L4_law_tells : Ms := (mSq (mPut (tName 7) (mCal kSum (mCons (mLc (mSeq (mVar 4)) (tName 8) CT2_law_tells CE3_law_tells [8]) mNil))) (mIf (mNotT (mTru (mCall (F__law_same 6) (mCons (mMeth [(5, F_Ledger_spent)] (mVar 0) (mCons (mVar 6) mNil)) (mCons (mVar 7) mNil))))) (mRet (mC (.bl false))) mSkip))
def m__law_tells : Ms := (mSq (mPut (tName 4) (mLc (mSeq (mVar 2)) (tName 8) CT0_law_tells CE1_law_tells [8])) (mSq (mOwn 5 (mMeth [(5, F_Ledger_payments)] (mVar 0) mNil)) (mSq (mIf (mOrT (mNotT (mTru (mCallV (F__law_same 6) (mCons (mVar 5) (mCons (mVar 4) mNil))))) (mNotT (mTru (mCall (F__law_same 6) (mCons (mMeth [(5, F_Ledger_balance)] (mVar 0) mNil) (mCons (mCall F__law_balance (mCons (mVar 1) (mCons (mVar 2) mNil))) mNil)))))) (mRet (mC (.bl false))) mSkip) (mSq (mOwnS oAppend 5 (mCons (mTup (mCons (mOp fIx (mVar 3) (mC (.int 0))) (mCons (mC (.int 1)) (mCons (mC (.str "odd")) (mCons (mC (.int 7)) mNil))))) mNil) fun _ => mSkip) (mSq (mSetIx 5 (mC (.int 0)) (mTup (mCons (mOp fIx (mVar 3) (mC (.int 1))) (mCons (mC (.int 1)) (mCons (mC (.str "edge")) (mCons (mC (.int 9)) mNil)))))) (mSq (mFor (mSeq (mOp fAdd (mVar 3) (mLst (mCons (mC (.str "")) (mCons (mC (.str "zz")) mNil))))) (tName 6) L4_law_tells) (mRet (mCall (F__law_same 6) (mCons (mMeth [(5, F_Ledger_payments)] (mVar 0) mNil) (mCons (mVar 4) mNil))))))))))
def F__law_tells : Fn := mFn 4 9 false m__law_tells
theorem d__law_tells (T : Tx P K mg A) {f : Addr} {fd : FuncData} (Fu : Fun K "_law_tells" "_law_tells" s__law_tells f fd) : FnOk P w K mg base (L2N.CX P w) 9 f fd ["_law_ledger", "_law_first_here", "_law_events", "_law_words_here"] (spF K (cfg A) false false F__law_tells) := by
  have hN : (["_law_ledger", "_law_first_here", "_law_events", "_law_words_here", "_law_paid", "_law_told", "_law_word", "_law_due_here", "_law_event"] : List Str).Nodup := by decide +kernel
  exact fn_sim (N := ["_law_ledger", "_law_first_here", "_law_events", "_law_words_here", "_law_paid", "_law_told", "_law_word", "_law_due_here", "_law_event"]) (ps := ["_law_ledger", "_law_first_here", "_law_events", "_law_words_here"]) (m := m__law_tells) (ΓX := []) (Γ' := [false, false, false, false, false, true, false, false, false]) rfl Fu ⟨rfl, rfl, rfl, by decide +kernel, rfl, by decide +kernel, by decide +kernel⟩ fun cdv A' outer s H E hr => (sss_cons (ss_setLc 4 hN (tt := tDb K _ _ _) (own := [("_law_event", 8)]) rfl (si_seqB (sb_var 2)) (by show BlkOk ["_law_ledger", "_law_first_here", "_law_events", "_law_words_here", "_law_paid", "_law_told", "_law_word", "_law_due_here", "_law_event"] (defScope s__law_tells) _ _; exact ⟨rfl, by decide +kernel, by decide +kernel, by decide +kernel, by decide +kernel⟩) (fun s H C cl fp => (tg_name 8 hN)) (fun s H C cl fp => (sts_one (st_tru (sb_of (sd_isi .tuple (sb_var 8) T.b_isinstance rfl T.b_tuple rfl))))) (fun s H C cl fp => (sd_var 8))) (sss_cons (ss_own 5 hN (sn_meth0 (lets (L2N.takes_of rfl rfl rfl rfl)) (sd_var 0) (mok (h_Ledger_payments T) hr))) (sss_cons (ss_if (Γ' := [false, false, false, false, false, true, false, false, false]) (st_w (sw_or (st_not (st_tru (sb_of (sd_fnV (h__law_same T 6) (lets (L2N.takes_of rfl rfl rfl rfl)) hr (svs_own 5 (svs_cons (sd_var 4) svs_nil)))))) (sw_or1 (st_not (st_tru (sb_of (sd_fn (h__law_same T 6) (lets (L2N.takes_of rfl rfl rfl rfl)) hr (sds_cons (sd_meth0 (lets (L2N.takes_of rfl rfl rfl rfl)) (sd_var 0) (mok (h_Ledger_balance T) hr)) (sds_cons (sd_fn (h__law_balance T) (lets (L2N.takes_of rfl rfl rfl rfl)) hr (sds_cons (sd_var 1) (sds_cons (sd_var 2) sds_nil))) sds_nil))))))))) (sss_one (ss_ret sd_bl)) sss_nil) (sss_cons (ss_ownDo 5 (pe_bm PySem.F.plainAttrs_list PySem.F.slot_list_append PySem.F.type_list_append mt_append (pv 5) (sds_cons (sd_tup (sds_cons (sd_ix (sb_var 3) (sb_of sd_int)) (sds_cons sd_int (sds_cons sd_str (sds_cons sd_int sds_nil))))) sds_nil)) oo_append) (sss_cons (ss_setIx 5 (sd_tup (sds_cons (sd_ix (sb_var 3) (sb_of sd_int)) (sds_cons sd_int (sds_cons sd_str (sds_cons sd_int sds_nil))))) sd_int) (sss_cons (ss_for (passes_of rfl) rfl (si_seq (sd_op o_add f_add (sb_var 3) (sb_of (sd_lst (sds_cons sd_str (sds_cons sd_str sds_nil)))))) (tg_name 6 hN) (sss_cons (ss_set 7 hN (sd_calB (cr_sum rfl) f_sum T.b_sum rfl (sbs_cons (sb_of (sd_lc (tt := tDb K _ _ _) (own := [("_law_event", 8)]) rfl hN (si_seqB (sb_var 4)) (by show BlkOk ["_law_ledger", "_law_first_here", "_law_events", "_law_words_here", "_law_paid", "_law_told", "_law_word", "_law_due_here", "_law_event"] (defScope s__law_tells) _ _; exact ⟨rfl, by decide +kernel, by decide +kernel, by decide +kernel, by decide +kernel⟩) (fun s H C cl fp => (tg_name 8 hN)) (fun s H C cl fp => (sts_one (st_cmp (o_eq (Room.units hr)) f_eq (sb_of (sd_ix (sb_var 8) (sb_of sd_int))) (sb_var 6)))) (fun s H C cl fp => (sd_ix (sb_var 8) (sb_of sd_int))))) sbs_nil))) (sss_one (ss_if (Γ' := [false, false, false, false, false, true, false, false, false]) (st_not (st_tru (sb_of (sd_fn (h__law_same T 6) (lets (L2N.takes_of rfl rfl rfl rfl)) hr (sds_cons (sd_meth (lets (L2N.takes_of rfl rfl rfl rfl)) (sd_var 0) (mok (h_Ledger_spent T) hr) (sds_cons (sd_var 6) sds_nil)) (sds_cons (sd_var 7) sds_nil)))))) (sss_one (ss_ret sd_bl)) sss_nil)))) (sss_one (ss_ret (sd_fn (h__law_same T 6) (lets (L2N.takes_of rfl rfl rfl rfl)) hr (sds_cons (sd_of_sn (sn_meth0 (lets (L2N.takes_of rfl rfl rfl rfl)) (sd_var 0) (mok (h_Ledger_payments T) hr))) (sds_cons (sd_var 4) sds_nil)))))))))))
theorem h__law_tells (T : Tx P K mg A) : Has P w K mg base "_law_tells" (cfg A) 9 false false ["_law_ledger", "_law_first_here", "_law_events", "_law_words_here"] F__law_tells := by
  obtain ⟨f, fd, Fu, hm⟩ := T.f__law_tells
  exact ⟨f, fd, hm, Fu.kp, (Fu.binds (ps := ["_law_ledger", "_law_first_here", "_law_events", "_law_words_here"]) fun _ _ _ _ _ _ us hl => match us, hl with | [_, _, _, _], _ => rfl), d__law_tells T Fu⟩

def m_Ledger_take_back : Ms := (mSq (mIf (mNotT (mTru (mFld [(5, 1)] (mVar 0)))) (mRaise 1 0 mNil) mSkip) (mSq (mOwnF oPop 5 1 (mVar 0) mNil (fun d sl S => match (tName 1) d sl with | some sl' => .next sl' S | none => .stuck)) (mSq (mIf (mTru (mUn (fIsi .tuple) (mVar 1))) (mAugF (fun i j => i + j) 5 0 (mVar 0) (mOp fIx (mVar 1) (mC (.int 3)))) (mAugF (fun i j => i - j) 5 0 (mVar 0) (mVar 1))) (mRet (mVar 1)))))
def F_Ledger_take_back : Fn := mFn 1 2 false m_Ledger_take_back
theorem d_Ledger_take_back (T : Tx P K mg A) {f : Addr} {fd : FuncData} (Fu : Fun K "take_back" "Ledger.take_back" s_Ledger_take_back f fd) : FnOk P w K mg base (L2N.CX P w) 2 f fd ["self"] (spF K (cfg A) true false F_Ledger_take_back) := by
  have hN : (["self", "last"] : List Str).Nodup := by decide +kernel
  exact fn_sim (N := ["self", "last"]) (ps := ["self"]) (m := m_Ledger_take_back) (ΓX := []) (Γ' := [false, false]) rfl Fu ⟨rfl, rfl, rfl, by decide +kernel, rfl, by decide +kernel, by decide +kernel⟩ fun cdv A' outer s H E hr => (sss_cons (ss_if (Γ' := [false, false]) (st_lv (J' := ⟨_, _, false⟩) rfl rfl rfl (st_not (st_tru (sb_fld [(5, 1)] T.cfg (sd_var 0))))) (sss_one (ss_raise0 (c := 1) rfl (L2N.takes_of rfl rfl rfl rfl) PySem.F.excBase_ValueError T.ei_1 T.c_NothingToUndo T.kx_1 (raises_own T.rx_1 T.ty_1))) sss_nil) (sss_cons (ss_fldGet0 5 1 T.cfg (pe_bm0 PySem.F.plainAttrs_list PySem.F.slot_list_pop PySem.F.type_list_pop mt_pop (pe_fld (sd_var 0) (by rfl))) oo_pop (tg_name 1 hN)) (sss_cons (ss_if (Γ' := [false, false]) (st_tru (sb_of (sd_isi .tuple (sb_var 1) T.b_isinstance rfl T.b_tuple rfl))) (sss_one (ss_augF (h := (fun i j => i + j)) 5 0 T.cfg in_add (fun i j H Q q => ⟨i, j, rfl, rfl, q⟩) (sd_var 0) (sd_ix (sb_var 1) (sb_of sd_int)))) (sss_one (ss_augF (h := (fun i j => i - j)) 5 0 T.cfg in_sub (fun i j H Q q => ⟨i, j, rfl, rfl, q⟩) (sd_var 0) (sd_var 1)))) (sss_one (ss_ret (sd_var 1))))))
theorem h_Ledger_take_back (T : Tx P K mg A) : HasM P w K mg base 5 "take_back" (cfg A) 2 true false ["self"] F_Ledger_take_back := by
  obtain ⟨f, fd, Fu, hi⟩ := T.m_5_take_back
  exact ⟨f, fd, ⟨T.cl_5, hi, by show _ ∉ fl0 5; decide +kernel⟩, (Fu.binds (ps := ["self"]) fun _ _ _ _ _ _ us hl => match us, hl with | [_], _ => rfl), d_Ledger_take_back T Fu⟩

def m_Ledger_pay : Ms := (mSq (mIf (mTst (mOp fGt (mVar 4) (mFld [(5, 0)] (mVar 0)))) (mRaise 3 2 (mCons (mVar 4) (mCons (mFld [(5, 0)] (mVar 0)) mNil))) mSkip) (mSq (mAugF (fun i j => i - j) 5 0 (mVar 0) (mVar 4)) (mOwnF oAppend 5 1 (mVar 0) (mCons (mTup (mCons (mVar 1) (mCons (mVar 2) (mCons (mVar 3) (mCons (mVar 4) mNil))))) mNil) fun _ => mSkip)))
def F_Ledger_pay : Fn := mFn 5 5 false m_Ledger_pay
theorem d_Ledger_pay (T : Tx P K mg A) {f : Addr} {fd : FuncData} (Fu : Fun K "pay" "Ledger.pay" s_Ledger_pay f fd) : FnOk P w K mg base (L2N.CX P w) 2 f fd ["self", "name", "bead", "mark", "price"] (spF K (cfg A) true false F_Ledger_pay) := by
  have hN : (["self", "name", "bead", "mark", "price"] : List Str).Nodup := by decide +kernel
  exact fn_sim (N := ["self", "name", "bead", "mark", "price"]) (ps := ["self", "name", "bead", "mark", "price"]) (m := m_Ledger_pay) (ΓX := []) (Γ' := [false, false, false, false, false]) rfl Fu ⟨rfl, rfl, rfl, by decide +kernel, rfl, by decide +kernel, by decide +kernel⟩ fun cdv A' outer s H E hr => (sss_cons (ss_if (Γ' := [false, false, false, false, false]) (st_cmp op_gt f_gt (sb_var 4) (sb_of (sd_fld [(5, 0)] T.cfg (sd_var 0)))) (sss_one (ss_raise2 rfl (L2N.takes_of rfl rfl rfl rfl) T.es_3 in_price_coins T.c_NoCoins T.kx_3 (raises_own T.rx_3 T.ty_3) hr (sds_cons (sd_var 4) (sds_cons (sd_fld [(5, 0)] T.cfg (sd_var 0)) sds_nil)))) sss_nil) (sss_cons (ss_augF (h := (fun i j => i - j)) 5 0 T.cfg in_sub (fun i j H Q q => ⟨i, j, rfl, rfl, q⟩) (sd_var 0) (sd_var 4)) (sss_one (ss_fldDo 5 1 T.cfg (pe_bm PySem.F.plainAttrs_list PySem.F.slot_list_append PySem.F.type_list_append mt_append (pe_fld (sd_var 0) (by rfl)) (sds_cons (sd_tup (sds_cons (sd_var 1) (sds_cons (sd_var 2) (sds_cons (sd_var 3) (sds_cons (sd_var 4) sds_nil))))) sds_nil)) oo_append))))
theorem h_Ledger_pay (T : Tx P K mg A) : HasM P w K mg base 5 "pay" (cfg A) 2 true false ["self", "name", "bead", "mark", "price"] F_Ledger_pay := by
  obtain ⟨f, fd, Fu, hi⟩ := T.m_5_pay
  exact ⟨f, fd, ⟨T.cl_5, hi, by show _ ∉ fl0 5; decide +kernel⟩, (Fu.binds (ps := ["self", "name", "bead", "mark", "price"]) fun _ _ _ _ _ _ us hl => match us, hl with | [_, _, _, _, _], _ => rfl), d_Ledger_pay T Fu⟩
theorem h_Ledger_pay_k0 (T : Tx P K mg A) : HasMK P w K mg base 5 "pay" (cfg A) 2 true false ["self", "name", "bead", "mark", "price"] ["price", "mark", "bead", "name"] [3, 2, 1, 0] F_Ledger_pay := by
  obtain ⟨f, fd, Fu, hi⟩ := T.m_5_pay
  exact ⟨f, fd, ⟨T.cl_5, hi, by show _ ∉ fl0 5; decide +kernel⟩, (Fun.kb Fu (ps := ["self", "name", "bead", "mark", "price"]) (ks := ["price", "mark", "bead", "name"]) (n := 1) (perm := [3, 2, 1, 0]) fun _ _ _ _ _ _ us ws h1 h2 => match us, ws, h1, h2 with | [_], [_, _, _, _], _, _ => rfl), d_Ledger_pay T Fu⟩

def m_Ledger_pay_in : Ms := (mSq (mIf (mOrT (mTst (mOp fLt (mVar 1) (mC (.int 1)))) (mOrT (mTst (mOp fGt (mVar 1) (mC (.int 1000000000)))) (mTst (mOp fGt (mOp fAdd (mFld [(5, 0)] (mVar 0)) (mVar 1)) (mC (.int 1000000000000)))))) (mRaise 2 1 (mCons (mVar 1) mNil)) mSkip) (mSq (mAugF (fun i j => i + j) 5 0 (mVar 0) (mVar 1)) (mOwnF oAppend 5 1 (mVar 0) (mCons (mVar 1) mNil) fun _ => mSkip)))
def F_Ledger_pay_in : Fn := mFn 2 2 false m_Ledger_pay_in
theorem d_Ledger_pay_in (T : Tx P K mg A) {f : Addr} {fd : FuncData} (Fu : Fun K "pay_in" "Ledger.pay_in" s_Ledger_pay_in f fd) : FnOk P w K mg base (L2N.CX P w) 2 f fd ["self", "amount"] (spF K (cfg A) true false F_Ledger_pay_in) := by
  have hN : (["self", "amount"] : List Str).Nodup := by decide +kernel
  exact fn_sim (N := ["self", "amount"]) (ps := ["self", "amount"]) (m := m_Ledger_pay_in) (ΓX := []) (Γ' := [false, false]) rfl Fu ⟨rfl, rfl, rfl, by decide +kernel, rfl, by decide +kernel, by decide +kernel⟩ fun cdv A' outer s H E hr => (sss_cons (ss_if (Γ' := [false, false]) (st_w (sw_or (st_cmp op_lt f_lt (sb_var 1) (sb_of sd_int)) (sw_or (st_cmp op_gt f_gt (sb_var 1) (sb_of (sd_const T.g_MOST_PAID_IN))) (sw_or1 (st_cmp op_gt f_gt (sb_of (sd_op o_add f_add (sb_of (sd_fld [(5, 0)] T.cfg (sd_var 0))) (sb_var 1))) (sb_of (sd_const T.g_MOST_COINS))))))) (sss_one (ss_raise1 rfl (L2N.takes_of rfl rfl rfl rfl) T.es_2 in_coins T.c_BadCoins T.kx_2 (raises_own T.rx_2 T.ty_2) hr (sds_cons (sd_var 1) sds_nil))) sss_nil) (sss_cons (ss_augF (h := (fun i j => i + j)) 5 0 T.cfg in_add (fun i j H Q q => ⟨i, j, rfl, rfl, q⟩) (sd_var 0) (sd_var 1)) (sss_one (ss_fldDo 5 1 T.cfg (pe_bm PySem.F.plainAttrs_list PySem.F.slot_list_append PySem.F.type_list_append mt_append (pe_fld (sd_var 0) (by rfl)) (sds_cons (sd_var 1) sds_nil)) oo_append))))
theorem h_Ledger_pay_in (T : Tx P K mg A) : HasM P w K mg base 5 "pay_in" (cfg A) 2 true false ["self", "amount"] F_Ledger_pay_in := by
  obtain ⟨f, fd, Fu, hi⟩ := T.m_5_pay_in
  exact ⟨f, fd, ⟨T.cl_5, hi, by show _ ∉ fl0 5; decide +kernel⟩, (Fu.binds (ps := ["self", "amount"]) fun _ _ _ _ _ _ us hl => match us, hl with | [_, _], _ => rfl), d_Ledger_pay_in T Fu⟩

def m__law_ask : Ms := (mTry (mSq (mIf (mAndT (mTst (mOp fEq (mOp fIx (mVar 1) (mC (.int 0))) (mC (.str "pay")))) (mTru (mVar 2))) (mRet (mTup (mCons (mC (.str "ok")) (mCons (mMeth [(5, F_Ledger_pay)] (mVar 0) (mPerm 4 [3, 2, 1, 0] (mCons (mOp fIx (mVar 1) (mC (.int 4))) (mCons (mOp fIx (mVar 1) (mC (.int 3))) (mCons (mOp fIx (mVar 1) (mC (.int 2))) (mCons (mOp fIx (mVar 1) (mC (.int 1))) mNil)))))) mNil)))) mSkip) (mSq (mIf (mTst (mOp fEq (mOp fIx (mVar 1) (mC (.int 0))) (mC (.str "pay")))) (mRet (mTup (mCons (mC (.str "ok")) (mCons (mMeth [(5, F_Ledger_pay)] (mVar 0) (mCons (mOp fIx (mVar 1) (mC (.int 1))) (mCons (mOp fIx (mVar 1) (mC (.int 2))) (mCons (mOp fIx (mVar 1) (mC (.int 3))) (mCons (mOp fIx (mVar 1) (mC (.int 4))) mNil))))) mNil)))) mSkip) (mSq (mIf (mTst (mOp fEq (mOp fIx (mVar 1) (mC (.int 0))) (mC (.str "pay_in")))) (mRet (mTup (mCons (mC (.str "ok")) (mCons (mMeth [(5, F_Ledger_pay_in)] (mVar 0) (mCons (mOp fIx (mVar 1) (mC (.int 1))) mNil)) mNil)))) mSkip) (mRet (mTup (mCons (mC (.str "ok")) (mCons (mMeth [(5, F_Ledger_take_back)] (mVar 0) mNil) mNil))))))) [⟨[(0, false), (1, false), (2, false), (3, true), (4, false)], some 3, fun x => (mRet (mTup (mCons (mC (.str "NoCoins")) (mCons (mXf 3 [(3, 0)] x) (mCons (mXf 3 [(3, 1)] x) mNil)))))⟩, ⟨[(0, false), (1, false), (2, true), (3, false), (4, false)], some 3, fun x => (mRet (mTup (mCons (mC (.str "BadCoins")) (mCons (mXf 3 [(2, 0)] x) mNil))))⟩, ⟨[(0, false), (1, true), (2, false), (3, false), (4, false)], none, fun x => (mRet (mTup (mCons (mC (.str "NothingToUndo")) (mCons (mC .non) mNil))))⟩])
def F__law_ask : Fn := mFn 3 4 false m__law_ask
theorem d__law_ask (T : Tx P K mg A) {f : Addr} {fd : FuncData} (Fu : Fun K "_law_ask" "_law_ask" s__law_ask f fd) : FnOk P w K mg base (L2N.CX P w) 3 f fd ["_law_ledger", "_law_deed_here", "_law_named"] (spF K (cfg A) true false F__law_ask) := by
  have hN : (["_law_ledger", "_law_deed_here", "_law_named", "e"] : List Str).Nodup := by decide +kernel
  exact fn_sim (N := ["_law_ledger", "_law_deed_here", "_law_named", "e"]) (ps := ["_law_ledger", "_law_deed_here", "_law_named"]) (m := m__law_ask) (ΓX := []) (Γ' := [false, false, false, false]) rfl Fu ⟨rfl, rfl, rfl, by decide +kernel, rfl, by decide +kernel, by decide +kernel⟩ fun cdv A' outer s H E hr => (sss_one (ss_try (cvs := [.ref (A 3), .ref (A 2), .ref (A 1)]) (Γh := [false, false, false, false]) (Γ' := [false, false, false, false]) (L2N.takes_of rfl rfl rfl rfl) (fun W pn xe tk hp => (sss_cons (ss_if (Γ' := [false, false, false, false]) (st_w (sw_and (st_cmp (o_eq (Room.units hr)) f_eq (sb_of (sd_ix (sb_var 1) (sb_of sd_int))) (sb_of sd_str)) (sw_and1 (st_tru (sb_var 2))))) (sss_one (ss_ret (sd_tup (sds_cons sd_str (sds_cons (sd_methK ["price", "mark", "bead", "name"] [3, 2, 1, 0] (lets tk) (sd_var 0) (mokK (h_Ledger_pay_k0 T) hr) (sks_cons (sd_ix (sb_var 1) (sb_of sd_int)) (sks_cons (sd_ix (sb_var 1) (sb_of sd_int)) (sks_cons (sd_ix (sb_var 1) (sb_of sd_int)) (sks_cons (sd_ix (sb_var 1) (sb_of sd_int)) sks_nil))))) sds_nil))))) sss_nil) (sss_cons (ss_if (Γ' := [false, false, false, false]) (st_cmp (o_eq (Room.units hr)) f_eq (sb_of (sd_ix (sb_var 1) (sb_of sd_int))) (sb_of sd_str)) (sss_one (ss_ret (sd_tup (sds_cons sd_str (sds_cons (sd_meth (lets tk) (sd_var 0) (mok (h_Ledger_pay T) hr) (sds_cons (sd_ix (sb_var 1) (sb_of sd_int)) (sds_cons (sd_ix (sb_var 1) (sb_of sd_int)) (sds_cons (sd_ix (sb_var 1) (sb_of sd_int)) (sds_cons (sd_ix (sb_var 1) (sb_of sd_int)) sds_nil))))) sds_nil))))) sss_nil) (sss_cons (ss_if (Γ' := [false, false, false, false]) (st_cmp (o_eq (Room.units hr)) f_eq (sb_of (sd_ix (sb_var 1) (sb_of sd_int))) (sb_of sd_str)) (sss_one (ss_ret (sd_tup (sds_cons sd_str (sds_cons (sd_meth (lets tk) (sd_var 0) (mok (h_Ledger_pay_in T) hr) (sds_cons (sd_ix (sb_var 1) (sb_of sd_int)) sds_nil)) sds_nil))))) sss_nil) (sss_one (ss_ret (sd_tup (sds_cons sd_str (sds_cons (sd_meth0 (lets tk) (sd_var 0) (mok (h_Ledger_take_back T) hr)) sds_nil))))))))) (HMix.as ⟨rfl, by decide, Or.inl T.c_NoCoins⟩ hN (i := 3) rfl rfl (fun a oe cls d pn hz hf => (su_pss (fun x => (sss_one (ss_ret (sd_tup (sds_cons sd_str (sds_cons (sd_xf [(3, 0)] rfl (xfAt_cons rfl T.xf_3 T.nf_3_price xfAt_nil) hz.zc hf) (sds_cons (sd_xf [(3, 1)] rfl (xfAt_cons rfl T.xf_3 T.nf_3_coins xfAt_nil) hz.zc hf) sds_nil))))))))) (HMix.as ⟨rfl, by decide, Or.inl T.c_BadCoins⟩ hN (i := 3) rfl rfl (fun a oe cls d pn hz hf => (su_pss (fun x => (sss_one (ss_ret (sd_tup (sds_cons sd_str (sds_cons (sd_xf [(2, 0)] rfl (xfAt_cons rfl T.xf_2 T.nf_2_coins xfAt_nil) hz.zc hf) sds_nil)))))))) (HMix.one ⟨rfl, by decide, Or.inl T.c_NothingToUndo⟩ (fun a oe cls d pn hz hf => (su_pss (fun x => (sss_one (ss_ret (sd_tup (sds_cons sd_str (sds_cons sd_non sds_nil)))))))) HMix.nil))) (.cons (okT_cons (exm_of T.ec_3 T.ty_3 T.sb_0_3) (okT_cons (exm_of T.ec_3 T.ty_3 T.sb_1_3) (okT_cons (exm_of T.ec_3 T.ty_3 T.sb_2_3) (okT_cons (exm_of T.ec_3 T.ty_3 T.sb_3_3) (okT_cons (exm_of T.ec_3 T.ty_3 T.sb_4_3) okT_nil))))) (.cons (okT_cons (exm_of T.ec_2 T.ty_2 T.sb_0_2) (okT_cons (exm_of T.ec_2 T.ty_2 T.sb_1_2) (okT_cons (exm_of T.ec_2 T.ty_2 T.sb_2_2) (okT_cons (exm_of T.ec_2 T.ty_2 T.sb_3_2) (okT_cons (exm_of T.ec_2 T.ty_2 T.sb_4_2) okT_nil))))) (.cons (okT_cons (exm_of T.ec_1 T.ty_1 T.sb_0_1) (okT_cons (exm_of T.ec_1 T.ty_1 T.sb_1_1) (okT_cons (exm_of T.ec_1 T.ty_1 T.sb_2_1) (okT_cons (exm_of T.ec_1 T.ty_1 T.sb_3_1) (okT_cons (exm_of T.ec_1 T.ty_1 T.sb_4_1) okT_nil))))) .nil)))))
theorem h__law_ask (T : Tx P K mg A) : Has P w K mg base "_law_ask" (cfg A) 3 true false ["_law_ledger", "_law_deed_here", "_law_named"] F__law_ask := by
  obtain ⟨f, fd, Fu, hm⟩ := T.f__law_ask
  exact ⟨f, fd, hm, Fu.kp, (Fu.binds (ps := ["_law_ledger", "_law_deed_here", "_law_named"]) fun _ _ _ _ _ _ us hl => match us, hl with | [_, _, _], _ => rfl), d__law_ask T Fu⟩

def L0_law_taken_back : Ms := (mSq (mPut (tName 5) (mCall F__law_due (mCons (mTup (mCons (mC (.str "take_back")) (mCons (mC (.int 0)) mNil))) (mCons (mVar 1) (mCons (mVar 2) mNil))))) (mSq (mIf (mNotT (mTru (mCall (F__law_same 6) (mCons (mCall F__law_ask (mCons (mVar 0) (mCons (mTup (mCons (mC (.str "take_back")) (mCons (mC (.int 0)) mNil))) (mCons (mC (.bl false)) mNil)))) (mCons (mVar 5) mNil))))) (mRet (mC (.bl false))) mSkip) (mSq (mPut (tName 2) (mCall F__law_behind (mCons (mTup (mCons (mC (.str "take_back")) (mCons (mC (.int 0)) mNil))) (mCons (mVar 5) (mCons (mVar 2) mNil))))) (mIf (mNotT (mTru (mCall F__law_tells (mCons (mVar 0) (mCons (mVar 1) (mCons (mVar 2) (mCons (mVar 3) mNil))))))) (mRet (mC (.bl false))) mSkip))))
def m__law_taken_back : Ms := (mSq (mFor (mRng kRng1 (mCons (mC (.int 15)) mNil)) (tName 4) L0_law_taken_back) (mRet (mOp fEq (mVar 2) (mLst mNil))))
def F__law_taken_back : Fn := mFn 4 6 false m__law_taken_back
theorem d__law_taken_back (T : Tx P K mg A) {f : Addr} {fd : FuncData} (Fu : Fun K "_law_taken_back" "_law_taken_back" s__law_taken_back f fd) : FnOk P w K mg base (L2N.CX P w) 10 f fd ["_law_ledger", "_law_first_here", "_law_events", "_law_words_here"] (spF K (cfg A) true false F__law_taken_back) := by
  have hN : (["_law_ledger", "_law_first_here", "_law_events", "_law_words_here", "_law_k", "_law_due_here"] : List Str).Nodup := by decide +kernel
  exact fn_sim (N := ["_law_ledger", "_law_first_here", "_law_events", "_law_words_here", "_law_k", "_law_due_here"]) (ps := ["_law_ledger", "_law_first_here", "_law_events", "_law_words_here"]) (m := m__law_taken_back) (ΓX := []) (Γ' := [false, false, false, false, false, false]) rfl Fu ⟨rfl, rfl, rfl, by decide +kernel, rfl, by decide +kernel, by decide +kernel⟩ fun cdv A' outer s H E hr => (sss_cons (ss_for (passes_of rfl) rfl (si_range1 (sds_cons sd_int sds_nil) T.b_range) (tg_name 4 hN) (sss_cons (ss_set 5 hN (sd_fn (h__law_due T) (lets (L2N.takes_of rfl rfl rfl rfl)) hr (sds_cons (sd_tup (sds_cons sd_str (sds_cons sd_int sds_nil))) (sds_cons (sd_var 1) (sds_cons (sd_var 2) sds_nil))))) (sss_cons (ss_if (Γ' := [false, false, false, false, false, false]) (st_not (st_tru (sb_of (sd_fn (h__law_same T 6) (lets (L2N.takes_of rfl rfl rfl rfl)) hr (sds_cons (sd_fn (h__law_ask T) (lets (L2N.takes_of rfl rfl rfl rfl)) hr (sds_cons (sd_var 0) (sds_cons (sd_tup (sds_cons sd_str (sds_cons sd_int sds_nil))) (sds_cons sd_bl sds_nil)))) (sds_cons (sd_var 5) sds_nil)))))) (sss_one (ss_ret sd_bl)) sss_nil) (sss_cons (ss_set 2 hN (sd_fn (h__law_behind T) (lets (L2N.takes_of rfl rfl rfl rfl)) hr (sds_cons (sd_tup (sds_cons sd_str (sds_cons sd_int sds_nil))) (sds_cons (sd_var 5) (sds_cons (sd_var 2) sds_nil))))) (sss_one (ss_if (Γ' := [false, false, false, false, false, false]) (st_not (st_tru (sb_of (sd_fn (h__law_tells T) (lets (L2N.takes_of rfl rfl rfl rfl)) hr (sds_cons (sd_var 0) (sds_cons (sd_var 1) (sds_cons (sd_var 2) (sds_cons (sd_var 3) sds_nil)))))))) (sss_one (ss_ret sd_bl)) sss_nil)))))) (sss_one (ss_ret (sd_cmp (o_eq (Room.units hr)) f_eq (sb_var 2) (sb_of (sd_lst sds_nil))))))
theorem h__law_taken_back (T : Tx P K mg A) : Has P w K mg base "_law_taken_back" (cfg A) 10 true false ["_law_ledger", "_law_first_here", "_law_events", "_law_words_here"] F__law_taken_back := by
  obtain ⟨f, fd, Fu, hm⟩ := T.f__law_taken_back
  exact ⟨f, fd, hm, Fu.kp, (Fu.binds (ps := ["_law_ledger", "_law_first_here", "_law_events", "_law_words_here"]) fun _ _ _ _ _ _ us hl => match us, hl with | [_, _, _, _], _ => rfl), d__law_taken_back T Fu⟩

def L0_law : Ms := (mIf (mNotT (mTru (mCall F__law_tells (mCons (mOp fIx (mVar 3) (mVar 8)) (mCons (mOp fIx (mVar 2) (mVar 8)) (mCons (mOp fIx (mVar 4) (mVar 8)) (mCons (mVar 1) mNil))))))) (mRet (mC (.bl false))) mSkip)
def L1_law : Ms := (mSq (mPut (tName 10) (mCall F__law_draws (mCons (mOp fAdd (mCall F__law_cell (mCons (mVar 0) (mCons (mOp fAdd (mC (.int 4)) (mVar 7)) mNil))) (mVar 7)) (mCons (mC (.int 6)) (mCons (mOp fPow (mC (.int 10)) (mC (.int 13))) mNil))))) (mSq (mPut (tName 11) (mOp fMod (mCal kInt (mCons (mOp fIx (mVar 10) (mC (.int 0))) mNil)) (mC (.int 2)))) (mSq (mPut (tName 12) (mCall F__law_deed (mCons (mVar 10) (mCons (mVar 1) (mCons (mCall F__law_balance (mCons (mOp fIx (mVar 2) (mVar 11)) (mCons (mOp fIx (mVar 4) (mVar 11)) mNil))) mNil))))) (mSq (mIf (mTst (mOp fEq (mOp fMod (mCal kInt (mCons (mOp fIx (mVar 10) (mC (.int 3))) mNil)) (mC (.int 5))) (mC (.int 0)))) (mPut (tName 12) (mVar 6)) mSkip) (mSq (mPut (tName 6) (mVar 12)) (mSq (mPut (tName 13) (mCall F__law_due (mCons (mVar 12) (mCons (mOp fIx (mVar 2) (mVar 11)) (mCons (mOp fIx (mVar 4) (mVar 11)) mNil))))) (mSq (mIf (mNotT (mTru (mCall (F__law_same 6) (mCons (mCall F__law_ask (mCons (mOp fIx (mVar 3) (mVar 11)) (mCons (mVar 12) (mCons (mOp fEq (mOp fMod (mVar 7) (mC (.int 3))) (mC (.int 1))) mNil)))) (mCons (mVar 13) mNil))))) (mRet (mC (.bl false))) mSkip) (mSq (mSetIx 4 (mVar 11) (mCall F__law_behind (mCons (mVar 12) (mCons (mVar 13) (mCons (mOp fIx (mVar 4) (mVar 11)) mNil))))) (mFor (mRng kRng1 (mCons (mC (.int 2)) mNil)) (tName 8) L0_law)))))))))
def L2_law : Ms := (mIf (mNotT (mTru (mCall F__law_taken_back (mCons (mOp fIx (mVar 3) (mVar 8)) (mCons (mOp fIx (mVar 2) (mVar 8)) (mCons (mOp fIx (mVar 4) (mVar 8)) (mCons (mVar 1) mNil))))))) (mRet (mC (.bl false))) mSkip)
def m_law : Ms := (mSq (mPut (tName 1) (mCall F__law_words (mCons (mCall F__law_cell (mCons (mVar 0) (mCons (mC (.int 0)) mNil))) mNil))) (mSq (mPut (tName 2) (mLst (mCons (mCall F__law_first (mCons (mCall F__law_cell (mCons (mVar 0) (mCons (mC (.int 1)) mNil))) mNil)) (mCons (mCall F__law_first (mCons (mOp fAdd (mCall F__law_cell (mCons (mVar 0) (mCons (mC (.int 2)) mNil))) (mC (.int 1))) mNil)) mNil)))) (mSq (mPut (tName 3) (mLst (mCons (mMk 5 2 F_Ledger_init (mCons (mOp fIx (mVar 2) (mC (.int 0))) mNil)) (mCons (mMk 5 2 F_Ledger_init (mPerm 1 [0] (mCons (mOp fIx (mVar 2) (mC (.int 1))) mNil))) mNil)))) (mSq (mOwn 4 (mLst (mCons (mLst mNil) (mCons (mLst mNil) mNil)))) (mSq (mPut (tName 5) (mCall F__law_draws (mCons (mCall F__law_cell (mCons (mVar 0) (mCons (mC (.int 3)) mNil))) (mCons (mC (.int 2)) (mCons (mOp fPow (mC (.int 10)) (mC (.int 13))) mNil))))) (mSq (mPut (tName 6) (mTup (mCons (mC (.str "take_back")) (mCons (mC (.int 0)) mNil)))) (mSq (mFor (mRng kRng1 (mCons (mOp fMod (mCal kInt (mCons (mOp fIx (mVar 5) (mC (.int 0))) mNil)) (mC (.int 15))) mNil)) (tName 7) L1_law) (mSq (mFor (mRng kRng1 (mCons (mC (.int 2)) mNil)) (tName 8) L2_law) (mSq (mPut (tName 9) (mCal kInt (mCons (mOp fIx (mVar 5) (mC (.int 1))) mNil))) (mSq (mIf (mOrT (mNotT (mTru (mCall F__law_refuses (mCons (mOp fSub (mUn fNeg (mC (.int 1))) (mOp fMod (mVar 9) (mOp fPow (mC (.int 10)) (mC (.int 12))))) mNil)))) (mNotT (mTru (mCall F__law_refuses (mCons (mOp fAdd (mOp fAdd (mOp fPow (mC (.int 10)) (mC (.int 12))) (mC (.int 1))) (mOp fMod (mVar 9) (mOp fPow (mC (.int 10)) (mC (.int 12))))) mNil))))) (mRet (mC (.bl false))) mSkip) (mRet (mAnd (mCall F__law_refuses (mCons (mUn fNeg (mC (.int 1))) mNil)) (mCall F__law_refuses (mCons (mOp fAdd (mOp fPow (mC (.int 10)) (mC (.int 12))) (mC (.int 1))) mNil))))))))))))))
def F_law : Fn := mFn 1 14 false m_law
theorem d_law (T : Tx P K mg A) {f : Addr} {fd : FuncData} (Fu : Fun K "law" "law" s_law f fd) : FnOk P w K mg base (L2N.CX P w) 11 f fd ["_law_script"] (spF K (cfg A) true false F_law) := by
  have hN : (["_law_script", "_law_words_here", "_law_firsts", "_law_ledgers", "_law_events", "_law_picks", "_law_last", "_law_k", "_law_one", "_law_number", "_law_draws_here", "_law_who", "_law_deed_here", "_law_due_here"] : List Str).Nodup := by decide +kernel
  exact fn_sim (N := ["_law_script", "_law_words_here", "_law_firsts", "_law_ledgers", "_law_events", "_law_picks", "_law_last", "_law_k", "_law_one", "_law_number", "_law_draws_here", "_law_who", "_law_deed_here", "_law_due_here"]) (ps := ["_law_script"]) (m := m_law) (ΓX := []) (Γ' := [false, false, false, false, true, false, false, false, false, false, false, false, false, false]) rfl Fu ⟨rfl, rfl, rfl, by decide +kernel, rfl, by decide +kernel, by decide +kernel⟩ fun cdv A' outer s H E hr => (sss_cons (ss_set 1 hN (sd_fn (h__law_words T) (lets (L2N.takes_of rfl rfl rfl rfl)) hr (sds_cons (sd_fn (h__law_cell T) (lets (L2N.takes_of rfl rfl rfl rfl)) hr (sds_cons (sd_var 0) (sds_cons sd_int sds_nil))) sds_nil))) (sss_cons (ss_set 2 hN (sd_lst (sds_cons (sd_fn (h__law_first T) (lets (L2N.takes_of rfl rfl rfl rfl)) hr (sds_cons (sd_fn (h__law_cell T) (lets (L2N.takes_of rfl rfl rfl rfl)) hr (sds_cons (sd_var 0) (sds_cons sd_int sds_nil))) sds_nil)) (sds_cons (sd_fn (h__law_first T) (lets (L2N.takes_of rfl rfl rfl rfl)) hr (sds_cons (sd_op o_add f_add (sb_of (sd_fn (h__law_cell T) (lets (L2N.takes_of rfl rfl rfl rfl)) hr (sds_cons (sd_var 0) (sds_cons sd_int sds_nil)))) (sb_of sd_int)) sds_nil)) sds_nil)))) (sss_cons (ss_set 3 hN (sd_lst (sds_cons (sd_new (h_Ledger_init T) (lets (L2N.takes_of rfl rfl rfl rfl)) hr (sds_cons (sd_ix (sb_var 2) (sb_of sd_int)) sds_nil)) (sds_cons (sd_newK ["coins"] [0] (h_Ledger_init_k1 T) (lets (L2N.takes_of rfl rfl rfl rfl)) hr (sks_cons (sd_ix (sb_var 2) (sb_of sd_int)) sks_nil)) sds_nil)))) (sss_cons (ss_own 4 hN (sn_lst (sds_cons (sd_lst sds_nil) (sds_cons (sd_lst sds_nil) sds_nil)))) (sss_cons (ss_set 5 hN (sd_fn (h__law_draws T) (lets (L2N.takes_of rfl rfl rfl rfl)) hr (sds_cons (sd_fn (h__law_cell T) (lets (L2N.takes_of rfl rfl rfl rfl)) hr (sds_cons (sd_var 0) (sds_cons sd_int sds_nil))) (sds_cons sd_int (sds_cons (sd_op op_pow f_pow (sb_of sd_int) (sb_of sd_int)) sds_nil))))) (sss_cons (ss_set 6 hN (sd_tup (sds_cons sd_str (sds_cons sd_int sds_nil)))) (sss_cons (ss_for (passes_of rfl) rfl (si_range1 (sds_cons (sd_op op_mod f_mod (sb_of (sd_calT o_int f_int T.b_int rfl (sbs_cons (sb_of (sd_ix (sb_var 5) (sb_of sd_int))) sbs_nil))) (sb_of sd_int)) sds_nil) T.b_range) (tg_name 7 hN) (sss_cons (ss_set 10 hN (sd_fn (h__law_draws T) (lets (L2N.takes_of rfl rfl rfl rfl)) hr (sds_cons (sd_op o_add f_add (sb_of (sd_fn (h__law_cell T) (lets (L2N.takes_of rfl rfl rfl rfl)) hr (sds_cons (sd_var 0) (sds_cons (sd_op o_add f_add (sb_of sd_int) (sb_var 7)) sds_nil)))) (sb_var 7)) (sds_cons sd_int (sds_cons (sd_op op_pow f_pow (sb_of sd_int) (sb_of sd_int)) sds_nil))))) (sss_cons (ss_set 11 hN (sd_op op_mod f_mod (sb_of (sd_calT o_int f_int T.b_int rfl (sbs_cons (sb_of (sd_ix (sb_var 10) (sb_of sd_int))) sbs_nil))) (sb_of sd_int))) (sss_cons (ss_set 12 hN (sd_fn (h__law_deed T) (lets (L2N.takes_of rfl rfl rfl rfl)) hr (sds_cons (sd_var 10) (sds_cons (sd_var 1) (sds_cons (sd_fn (h__law_balance T) (lets (L2N.takes_of rfl rfl rfl rfl)) hr (sds_cons (sd_ix (sb_var 2) (sb_var 11)) (sds_cons (sd_ix (sb_var 4) (sb_var 11)) sds_nil))) sds_nil))))) (sss_cons (ss_if (Γ' := [false, false, false, false, true, false, false, false, false, false, false, false, false, false]) (st_cmp (o_eq (Room.units hr)) f_eq (sb_of (sd_op op_mod f_mod (sb_of (sd_calT o_int f_int T.b_int rfl (sbs_cons (sb_of (sd_ix (sb_var 10) (sb_of sd_int))) sbs_nil))) (sb_of sd_int))) (sb_of sd_int)) (sss_one (ss_set 12 hN (sd_var 6))) sss_nil) (sss_cons (ss_set 6 hN (sd_var 12)) (sss_cons (ss_set 13 hN (sd_fn (h__law_due T) (lets (L2N.takes_of rfl rfl rfl rfl)) hr (sds_cons (sd_var 12) (sds_cons (sd_ix (sb_var 2) (sb_var 11)) (sds_cons (sd_ix (sb_var 4) (sb_var 11)) sds_nil))))) (sss_cons (ss_if (Γ' := [false, false, false, false, true, false, false, false, false, false, false, false, false, false]) (st_not (st_tru (sb_of (sd_fn (h__law_same T 6) (lets (L2N.takes_of rfl rfl rfl rfl)) hr (sds_cons (sd_fn (h__law_ask T) (lets (L2N.takes_of rfl rfl rfl rfl)) hr (sds_cons (sd_ix (sb_var 3) (sb_var 11)) (sds_cons (sd_var 12) (sds_cons (sd_cmp (o_eq (Room.units hr)) f_eq (sb_of (sd_op op_mod f_mod (sb_var 7) (sb_of sd_int))) (sb_of sd_int)) sds_nil)))) (sds_cons (sd_var 13) sds_nil)))))) (sss_one (ss_ret sd_bl)) sss_nil) (sss_cons (ss_setIx 4 (sd_fn (h__law_behind T) (lets (L2N.takes_of rfl rfl rfl rfl)) hr (sds_cons (sd_var 12) (sds_cons (sd_var 13) (sds_cons (sd_ix (sb_var 4) (sb_var 11)) sds_nil)))) (sd_var 11)) (sss_one (ss_for (passes_of rfl) rfl (si_range1 (sds_cons sd_int sds_nil) T.b_range) (tg_name 8 hN) (sss_one (ss_if (Γ' := [false, false, false, false, true, false, false, false, false, false, false, false, false, false]) (st_not (st_tru (sb_of (sd_fn (h__law_tells T) (lets (L2N.takes_of rfl rfl rfl rfl)) hr (sds_cons (sd_ix (sb_var 3) (sb_var 8)) (sds_cons (sd_ix (sb_var 2) (sb_var 8)) (sds_cons (sd_ix (sb_var 4) (sb_var 8)) (sds_cons (sd_var 1) sds_nil)))))))) (sss_one (ss_ret sd_bl)) sss_nil))))))))))))) (sss_cons (ss_for (passes_of rfl) rfl (si_range1 (sds_cons sd_int sds_nil) T.b_range) (tg_name 8 hN) (sss_one (ss_if (Γ' := [false, false, false, false, true, false, false, false, false, false, false, false, false, false]) (st_not (st_tru (sb_of (sd_fn (h__law_taken_back T) (lets (L2N.takes_of rfl rfl rfl rfl)) hr (sds_cons (sd_ix (sb_var 3) (sb_var 8)) (sds_cons (sd_ix (sb_var 2) (sb_var 8)) (sds_cons (sd_ix (sb_var 4) (sb_var 8)) (sds_cons (sd_var 1) sds_nil)))))))) (sss_one (ss_ret sd_bl)) sss_nil))) (sss_cons (ss_set 9 hN (sd_calT o_int f_int T.b_int rfl (sbs_cons (sb_of (sd_ix (sb_var 5) (sb_of sd_int))) sbs_nil))) (sss_cons (ss_if (Γ' := [false, false, false, false, true, false, false, false, false, false, false, false, false, false]) (st_w (sw_or (st_not (st_tru (sb_of (sd_fn (h__law_refuses T) (lets (L2N.takes_of rfl rfl rfl rfl)) hr (sds_cons (sd_op op_sub f_sub (sb_of (sd_un un_neg f_neg (sb_of sd_int))) (sb_of (sd_op op_mod f_mod (sb_var 9) (sb_of (sd_op op_pow f_pow (sb_of sd_int) (sb_of sd_int)))))) sds_nil))))) (sw_or1 (st_not (st_tru (sb_of (sd_fn (h__law_refuses T) (lets (L2N.takes_of rfl rfl rfl rfl)) hr (sds_cons (sd_op o_add f_add (sb_of (sd_op o_add f_add (sb_of (sd_op op_pow f_pow (sb_of sd_int) (sb_of sd_int))) (sb_of sd_int))) (sb_of (sd_op op_mod f_mod (sb_var 9) (sb_of (sd_op op_pow f_pow (sb_of sd_int) (sb_of sd_int)))))) sds_nil)))))))) (sss_one (ss_ret sd_bl)) sss_nil) (sss_one (ss_ret (sd_and (sd_fn (h__law_refuses T) (lets (L2N.takes_of rfl rfl rfl rfl)) hr (sds_cons (sd_un un_neg f_neg (sb_of sd_int)) sds_nil)) (sd_and1 (sd_fn (h__law_refuses T) (lets (L2N.takes_of rfl rfl rfl rfl)) hr (sds_cons (sd_op o_add f_add (sb_of (sd_op op_pow f_pow (sb_of sd_int) (sb_of sd_int))) (sb_of sd_int)) sds_nil))))))))))))))))
theorem h_law (T : Tx P K mg A) : Has P w K mg base "law" (cfg A) 11 true false ["_law_script"] F_law := by
  obtain ⟨f, fd, Fu, hm⟩ := T.f_law
  exact ⟨f, fd, hm, Fu.kp, (Fu.binds (ps := ["_law_script"]) fun _ _ _ _ _ _ us hl => match us, hl with | [_], _ => rfl), d_law T Fu⟩
end
end K29
set_option Elab.async false
set_option linter.all false
set_option maxRecDepth 100000
set_option maxHeartbeats 4000000
namespace K29
open PySem Sm
theorem sz_eq : sizeLine = 16777216 := by decide
theorem sz_le {n : Nat} (h : n ≤ 16777216) : n ≤ sizeLine := by rw [sz_eq]; exact h
theorem p4 : fPow (.int 10) (.int 4) = some (.int 10000) := by rfl
theorem p9 : fPow (.int 10) (.int 9) = some (.int 1000000000) := by rfl
theorem p12 : fPow (.int 10) (.int 12) = some (.int 1000000000000) := by rfl
theorem p13 : fPow (.int 10) (.int 13) = some (.int 10000000000000) := by rfl
theorem p18 : fPow (.int 10) (.int 18) = some (.int 1000000000000000000) := by rfl
theorem fdiv_at {i j : Int} (h : 0 < j) (h2 : j < 1000000000000000000) : fFdiv (.int i) (.int j) = some (.int (i / j)) := by
  have z : j < 2 ^ 100 := by omega
  show (if 0 < j ∧ j < 2 ^ 100 then some (D.int (i / j)) else none) = _
  rw [if_pos ⟨h, z⟩]
theorem x_tup (xs : List D) (i : Int) : fIx (.tup xs) (.int i) = L2.atI xs i := rfl
theorem x_lst (xs : List D) (i : Int) : fIx (.lst xs) (.int i) = L2.atI xs i := rfl
theorem a_int (i j : Int) : fAdd (.int i) (.int j) = some (.int (i + j)) := rfl
/-! ### the statements, step by step -/
section
variable {a b : Ms} {me mo : Mx D} {mt : Mx Bool} {ma : Mx (List D)} {sl sl' : List (Option D)} {S S' : Sto} {d : D} {r : Rs} {i : Nat} {x : Exc}
theorem e_sq (h1 : a sl S = .next sl' S') (h2 : b sl' S' = r) : mSq a b sl S = r := by unfold mSq; rw [h1]; exact h2
theorem e_sqr (h1 : a sl S = .ret d S') : mSq a b sl S = .ret d S' := by unfold mSq; rw [h1]
theorem e_sqe (h1 : a sl S = .err x sl' S') : mSq a b sl S = .err x sl' S' := by unfold mSq; rw [h1]
theorem e_put (h : me sl S = .ok d S') (hi : i < sl.length := by simp) : mPut (tName i) me sl S = .next (sl.set i (some d)) S' := by unfold mPut bindS; rw [h]; simp [tName, hi]
theorem e_own (h : me sl S = .ok d S') (hi : i < sl.length := by simp) : mOwn i me sl S = .next (sl.set i (some d)) S' := by unfold mOwn bindS; rw [h]; simp [hi]
theorem e_ret (h : me sl S = .ok d S') : mRet me sl S = .ret d S' := by unfold mRet bindS; rw [h]
theorem e_rete (h : me sl S = .err x S') : mRet me sl S = .err x sl S' := by unfold mRet bindS; rw [h]
theorem e_doe (h : me sl S = .err x S') : mDo me sl S = .err x sl S' := by unfold mDo bindS; rw [h]
theorem e_ift (h : mt sl S = .ok true S') (h2 : a sl S' = r) : mIf mt a b sl S = r := by unfold mIf bindS; rw [h]; exact h2
theorem e_iff (h : mt sl S = .ok false S') (h2 : b sl S' = r) : mIf mt a b sl S = r := by unfold mIf bindS; rw [h]; exact h2
theorem e_skip : mSkip sl S = .next sl S := rfl
theorem e_for {t : Tg} {ds : List D} (h : ma sl S = .ok ds S') (h2 : loopF t a ds sl S' = r) : mFor ma t a sl S = r := by unfold mFor bindS; rw [h]; exact h2
theorem e_fn {n N : Nat} {fr : Bool} {m : Ms} {ds : List D} (h : m (ds.map some ++ List.replicate (N - ds.length) none) S = .ret d S') (hl : ds.length = n := by rfl) : mFn n N fr m ds S = .ok d S' := by unfold mFn; rw [if_pos hl, h]
theorem e_fnn {n N : Nat} {m : Ms} {ds : List D} (h : m (ds.map some ++ List.replicate (N - ds.length) none) S = .next sl' S') (hl : ds.length = n := by rfl) : mFn n N false m ds S = .ok .non S' := by unfold mFn; rw [if_pos hl, h]; rfl
theorem e_fne {n N : Nat} {fr : Bool} {m : Ms} {ds : List D} (h : m (ds.map some ++ List.replicate (N - ds.length) none) S = .err x sl' S') (hl : ds.length = n := by rfl) : mFn n N fr m ds S = .err x S' := by unfold mFn; rw [if_pos hl, h]
end
theorem e_lst0 {sl : List (Option D)} {S : Sto} : mLst mNil sl S = .ok (.lst []) S := by simp [mLst, mNil, bindX, pureX, sz_eq]
/-! ### loops -/
theorem loop_ind {t : Tg} {mb : Ms} {P : Nat → List (Option D) → Sto → Prop} : ∀ (ds : List D) (k : Nat) (sl : List (Option D)) (S : Sto), P k sl S →
    (∀ i d sl S, ds[i]? = some d → P (k + i) sl S → ∃ sl1 sl2 S2, t d sl = some sl1 ∧ mb sl1 S = .next sl2 S2 ∧ P (k + i + 1) sl2 S2) → ∃ sl' S', loopF t mb ds sl S = .next sl' S' ∧ P (k + ds.length) sl' S'
  | [], k, sl, S, h, _ => ⟨sl, S, rfl, h⟩
  | d :: ds, k, sl, S, h, st => by
    obtain ⟨sl1, sl2, S2, h1, h2, h3⟩ := st 0 d sl S rfl h
    obtain ⟨sl', S', h4, h5⟩ := loop_ind ds (k + 1) sl2 S2 h3 fun i d sl S e p => by
      have q := st (i + 1) d sl S (by simpa using e) (by rw [show k + (i + 1) = k + 1 + i by omega]; exact p)
      rwa [show k + (i + 1) + 1 = k + 1 + i + 1 by omega] at q
    refine ⟨sl', S', ?_, by rw [List.length_cons, show k + (ds.length + 1) = k + 1 + ds.length by omega]; exact h5⟩
    unfold loopF
    simp only [h1, h2, h4]
theorem loopC_fm {t : Tg} {tt : Mx Bool} {el : Mx D} {slw : List (Option D)} {S : Sto} (g : D → Option D) : ∀ (ds acc : List D), acc.length + ds.length < 16777216 →
    (∀ d ∈ ds, ∃ sl', t d slw = some sl' ∧ ((g d = none ∧ tt sl' S = .ok false S) ∨ ∃ y, g d = some y ∧ tt sl' S = .ok true S ∧ el sl' S = .ok y S)) → loopC t tt el slw ds acc S = .ok (acc ++ ds.filterMap g) S
  | [], acc, _, _ => by simp [loopC]
  | d :: ds, acc, hl, h => by
    obtain ⟨sl', h1, h2⟩ := h d List.mem_cons_self
    have hl' : acc.length + (ds.length + 1) < 16777216 := by simpa using hl
    rcases h2 with ⟨h2, h3⟩ | ⟨y, h2, h3, h4⟩
    · unfold loopC
      simp only [h1, h3]
      rw [loopC_fm g ds acc (by omega) fun d hd => h d (List.mem_cons_of_mem _ hd)]
      simp [h2]
    · unfold loopC
      simp only [h1, h3, h4]
      rw [if_pos (by rw [sz_eq]; omega), loopC_fm g ds (acc ++ [y]) (by simp; omega) fun d hd => h d (List.mem_cons_of_mem _ hd)]
      simp [h2]
theorem e_lc {src : Mx (List D)} {t : Tg} {tt : Mx Bool} {el : Mx D} {vs : List Nat} {sl : List (Option D)} {S : Sto} {ds : List D} (g : D → Option D) (hs : src sl S = .ok ds S) (hl : ds.length < 1000000)
    (h : ∀ d ∈ ds, ∃ sl', t d (wipeD sl vs) = some sl' ∧ ((g d = none ∧ tt sl' S = .ok false S) ∨ ∃ y, g d = some y ∧ tt sl' S = .ok true S ∧ el sl' S = .ok y S)) : mLc src t tt el vs sl S = .ok (.lst (ds.filterMap g)) S := by
  unfold mLc
  simp only [hs]
  rw [loopC_fm g ds [] (by simp; omega) h]
  rfl
/-! ### draws -/
theorem cell_at (ns : List Int) (k : Int) (hk : 0 ≤ k) (hn : ns.length ≤ 63) (S : Sto) : ∃ v : Int, F__law_cell [.lst (ns.map D.int), .int k] S = .ok (.int v) S := by
  by_cases h : k < ns.length
  · refine ⟨ns.getD k.toNat 0, ?_⟩
    have hk' : k.toNat < ns.length := by omega
    simp [mFn, mSq, mSkip, mPut, tName, mOwn, mDo, mRet, mIf, bindS, mC, mVar, mOp, mUn, bindX, pureX, ofO, mCons, mNil, mTup, mLst, mCal, mTst, mTru, mAndT, mOrT, mNotT, mAnd, mOr, mNot, truth, asBl, a_int, fSub, fMul, fMod, p4, p9, p12, p13, p18, fLt, fLe, fGt, fGe, x_tup, x_lst, fNeg, fIs, isD, fIsi, isi, kInt, kLen, kMin2, kMax2, mCall, sz_eq, F__law_cell, m__law_cell, h, hk, L2.atI, L2.ixN, hk']
  · exact ⟨0, by simp [mFn, mSq, mSkip, mPut, tName, mOwn, mDo, mRet, mIf, bindS, mC, mVar, mOp, mUn, bindX, pureX, ofO, mCons, mNil, mTup, mLst, mCal, mTst, mTru, mAndT, mOrT, mNotT, mAnd, mOr, mNot, truth, asBl, a_int, fSub, fMul, fMod, p4, p9, p12, p13, p18, fLt, fLe, fGt, fGe, x_tup, x_lst, fNeg, fIs, isD, fIsi, isi, kInt, kLen, kMin2, kMax2, mCall, sz_eq, F__law_cell, m__law_cell, h]⟩
theorem sm_of {x : Int} (h : 0 ≤ x) (h2 : x < 2147483648) : smallI x = true := by unfold smallI; exact decide_eq_true ⟨by omega, by omega⟩
theorem mixed_at (c k : Int) (hk : 0 ≤ k ∧ k < 100) (S : Sto) : ∃ v : Int, 0 ≤ v ∧ F__law_mixed [.int c, .int k] S = .ok (.int v) S := by
  obtain ⟨a, ha⟩ : ∃ a, a = (c + 7919 * k + 13) % 2147483647 := ⟨_, rfl⟩
  have ha1 : 0 ≤ a ∧ a < 2147483647 := by omega
  obtain ⟨b, hb⟩ : ∃ b, b = a * (a + 48271) % 2147483629 := ⟨_, rfl⟩
  have hb1 : 0 ≤ b ∧ b < 2147483629 := by omega
  obtain ⟨e, he⟩ : ∃ e, e = (b * (b + 69621) + 31 * k) % 2147483647 := ⟨_, rfl⟩
  have he1 : 0 ≤ e := by omega
  have s1 := sm_of ha1.1 (by omega)
  have s2 := sm_of hb1.1 (by omega)
  have s3 := sm_of hk.1 (by omega)
  have s4 : smallI 7919 = true := by decide
  have s5 : smallI 31 = true := by decide
  refine ⟨e / 9, by omega, ?_⟩
  simp [mFn, mSq, mSkip, mPut, tName, mOwn, mDo, mRet, mIf, bindS, mC, mVar, mOp, mUn, bindX, pureX, ofO, mCons, mNil, mTup, mLst, mCal, mTst, mTru, mAndT, mOrT, mNotT, mAnd, mOr, mNot, truth, asBl, a_int, fSub, fMul, fMod, p4, p9, p12, p13, p18, fLt, fLe, fGt, fGe, x_tup, x_lst, fNeg, fIs, isD, fIsi, isi, kInt, kLen, kMin2, kMax2, mCall, sz_eq, F__law_mixed, m__law_mixed, fdiv_at (show (0:Int) < 9 by decide) (show (9:Int) < 1000000000000000000 by decide), s1, s2, s3, s4, s5, ← ha, ← hb, ← he]
/-- draws below a size -/
structure Drw (l : List Int) (n : Nat) (z : Int) : Prop where
  len : l.length = n
  lo : ∀ x ∈ l, 0 ≤ x ∧ x < z
theorem turn_a (c n z rest : Int) (l : List Int) (i : D) (S : Sto) (hz : 0 < z ∧ z < 1000000000000000000) (hc : 1000000000000000000 ≤ c) (hr : 0 < rest) (hl : l.length < 100) :
    L0_law_draws [some (.int c), some (.int n), some (.int z), some (.lst (l.map D.int)), some (.int rest), some i] S = .next [some (.int c), some (.int n), some (.int z), some (.lst ((l ++ [rest % z]).map D.int)), some (.int (rest / z)), some i] S := by
  have hln : l.length < 16777216 := by omega
  simp [mFn, mSq, mSkip, mPut, tName, mOwn, mDo, mRet, mIf, bindS, mC, mVar, mOp, mUn, bindX, pureX, ofO, mCons, mNil, mTup, mLst, mCal, mTst, mTru, mAndT, mOrT, mNotT, mAnd, mOr, mNot, truth, asBl, a_int, fSub, fMul, fMod, p4, p9, p12, p13, p18, fLt, fLe, fGt, fGe, x_tup, x_lst, fNeg, fIs, isD, fIsi, isi, kInt, kLen, kMin2, kMax2, mCall, sz_eq, L0_law_draws, mOwnS, oAppend, isLst, hc, hr, hz.1, hln, fdiv_at hz.1 hz.2]
theorem turn_b (c n z rest v : Int) (l : List Int) (i : Int) (S : Sto) (hz : 0 < z ∧ z < 1000000000000000000) (hc : ¬ (1000000000000000000 ≤ c ∧ 0 < rest)) (hv : F__law_mixed [.int c, .int i] S = .ok (.int v) S) (hl : l.length < 100) :
    L0_law_draws [some (.int c), some (.int n), some (.int z), some (.lst (l.map D.int)), some (.int rest), some (.int i)] S = .next [some (.int c), some (.int n), some (.int z), some (.lst ((l ++ [v % z]).map D.int)), some (.int rest), some (.int i)] S := by
  have hln : l.length < 16777216 := by omega
  by_cases h1 : 1000000000000000000 ≤ c
  · have h2 : ¬ 0 < rest := fun q => hc ⟨h1, q⟩
    simp [mFn, mSq, mSkip, mPut, tName, mOwn, mDo, mRet, mIf, bindS, mC, mVar, mOp, mUn, bindX, pureX, ofO, mCons, mNil, mTup, mLst, mCal, mTst, mTru, mAndT, mOrT, mNotT, mAnd, mOr, mNot, truth, asBl, a_int, fSub, fMul, fMod, p4, p9, p12, p13, p18, fLt, fLe, fGt, fGe, x_tup, x_lst, fNeg, fIs, isD, fIsi, isi, kInt, kLen, kMin2, kMax2, mCall, sz_eq, L0_law_draws, mOwnS, oAppend, isLst, h1, h2, hz.1, hln, hv]
  · simp [mFn, mSq, mSkip, mPut, tName, mOwn, mDo, mRet, mIf, bindS, mC, mVar, mOp, mUn, bindX, pureX, ofO, mCons, mNil, mTup, mLst, mCal, mTst, mTru, mAndT, mOrT, mNotT, mAnd, mOr, mNot, truth, asBl, a_int, fSub, fMul, fMod, p4, p9, p12, p13, p18, fLt, fLe, fGt, fGe, x_tup, x_lst, fNeg, fIs, isD, fIsi, isi, kInt, kLen, kMin2, kMax2, mCall, sz_eq, L0_law_draws, mOwnS, oAppend, isLst, h1, hz.1, hln, hv]
theorem rng_at {n i : Nat} {d : D} (hi : (rng 0 n)[i]? = some d) : i < n ∧ d = .int i := by
  unfold rng at hi
  rw [List.getElem?_map] at hi
  by_cases q : i < n
  · rw [List.getElem?_range q] at hi
    simp at hi
    exact ⟨q, hi.symm⟩
  · rw [List.getElem?_eq_none (by simpa using q)] at hi
    simp at hi
theorem rng_len {n : Nat} : (rng 0 n).length = n := by simp [rng]
theorem Drw.app {l : List Int} {n : Nat} {z x : Int} (h : Drw l n z) (hz : 0 < z) : Drw (l ++ [x % z]) (n + 1) z := ⟨by rw [List.length_append, h.len]; rfl, fun y hy => by
  rcases List.mem_append.mp hy with q | q
  · exact h.lo y q
  · simp at q; subst q
    exact ⟨Int.emod_nonneg _ (by omega), Int.emod_lt_of_pos _ hz⟩⟩
theorem inR_at {n : Int} (h0 : 0 ≤ n) (hn : n < 1000) : inR n = true := by
  have h : -(2 ^ 62 : Int) ≤ n ∧ n < 2 ^ 62 := ⟨by omega, by omega⟩
  simpa [inR] using h
theorem e_rng {ma : Mx D} {sl : List (Option D)} {S S' : Sto} {n : Int} (h : ma sl S = .ok (.int n) S') (h0 : 0 ≤ n) (hn : n < 1000) : mRng kRng1 (mCons ma mNil) sl S = .ok (rng 0 n.toNat) S' := by
  have e : mCons ma mNil sl S = .ok [.int n] S' := by unfold mCons bindX; rw [h]; rfl
  unfold mRng bindX
  rw [e]
  show ofO (if inR n = true then some (rng 0 n.toNat) else none) sl S' = _
  rw [if_pos (inR_at h0 hn)]
  rfl
def PD (c z : Int) (n : Nat) (S : Sto) (i : Nat) (sl : List (Option D)) (T : Sto) : Prop := ∃ (l : List Int) (rest : Int) (od : Option D), sl = [some (.int c), some (.int n), some (.int z), some (.lst (l.map D.int)), some (.int rest), od] ∧ T = S ∧ Drw l i z
theorem turn (c : Int) (n : Nat) (z : Int) (hn : n < 100) (hz : 0 < z ∧ z < 1000000000000000000) (S : Sto) (i : Nat) (d : D) (sl : List (Option D)) (T : Sto) (hi : (rng 0 n)[i]? = some d) (hp : PD c z n S i sl T) :
    ∃ sl1 sl2 S2, tName 5 d sl = some sl1 ∧ L0_law_draws sl1 T = .next sl2 S2 ∧ PD c z n S (i + 1) sl2 S2 := by
  obtain ⟨l, rest, od, rfl, rfl, hd⟩ := hp
  obtain ⟨hin, rfl⟩ := rng_at hi
  have hl : l.length < 100 := by rw [hd.len]; omega
  refine ⟨[some (.int c), some (.int n), some (.int z), some (.lst (l.map D.int)), some (.int rest), some (.int i)], ?_⟩
  by_cases hc : 1000000000000000000 ≤ c ∧ 0 < rest
  · exact ⟨_, _, rfl, turn_a c n z rest l _ T hz hc.1 hc.2 hl, _, _, _, rfl, rfl, hd.app hz.1⟩
  · obtain ⟨v, hv0, hv⟩ := mixed_at c i ⟨by omega, by omega⟩ T
    exact ⟨_, _, rfl, turn_b c n z rest v l i T hz hc hv hl, _, _, _, rfl, rfl, hd.app hz.1⟩
theorem draws_at (c : Int) (n : Nat) (z : Int) (hn : n < 100) (hz : 0 < z ∧ z < 1000000000000000000) (S : Sto) : ∃ l, Drw l n z ∧ F__law_draws [.int c, .int n, .int z] S = .ok (.lst (l.map D.int)) S := by
  obtain ⟨sl', S', h1, l, rest, od, rfl, rfl, h3⟩ := loop_ind (t := tName 5) (mb := L0_law_draws) (P := PD c z n S) (rng 0 n) 0 [some (.int c), some (.int n), some (.int z), some (.lst []), some (.int c), none] S ⟨[], c, none, rfl, rfl, rfl, by simp⟩
    fun i d sl T hi hp => by
      rw [Nat.zero_add] at hp ⊢
      exact turn c n z hn hz S i d sl T hi hp
  rw [rng_len, Nat.zero_add] at h3
  have a1 : mOwn 3 (mLst mNil) [some (.int c), some (.int n), some (.int z), none, none, none] S' = .next [some (.int c), some (.int n), some (.int z), some (.lst []), none, none] S' := e_own e_lst0
  have a2 : mPut (tName 4) (mVar 0) [some (.int c), some (.int n), some (.int z), some (.lst []), none, none] S' = .next [some (.int c), some (.int n), some (.int z), some (.lst []), some (.int c), none] S' := e_put rfl
  have a3 : mFor (mRng kRng1 (mCons (mVar 1) mNil)) (tName 5) L0_law_draws [some (.int c), some (.int n), some (.int z), some (.lst []), some (.int c), none] S' = _ := e_for (e_rng (n := n) (S' := S') rfl (by omega) (by omega)) h1
  exact ⟨l, h3, e_fn (e_sq a1 (e_sq a2 (e_sq a3 (e_ret rfl))))⟩
end K29
set_option Elab.async false
set_option linter.all false
set_option maxRecDepth 100000
set_option maxHeartbeats 4000000
namespace K29
open PySem Sm
/-! ### what happened in a ledger -/
inductive Ev where
  | pay (n : Str) (b : Int) (m : Str) (p : Int) | inn (a : Int)
def Ev.d : Ev → D
  | .pay n b m p => .tup [.str n, .int b, .str m, .int p]
  | .inn a => .int a
def evs (l : List Ev) : D := .lst (l.map Ev.d)
def step (s : Int) : Ev → Int
  | .pay _ _ _ p => s - p
  | .inn a => s + a
def bal (f : Int) (l : List Ev) : Int := l.foldl step f
theorem bal_app (f : Int) (l : List Ev) (e : Ev) : bal f (l ++ [e]) = step (bal f l) e := by simp [bal]
def PB (f : Int) (l : List Ev) (S : Sto) (i : Nat) (sl : List (Option D)) (T : Sto) : Prop := ∃ od, sl = [some (.int f), some (evs l), some (.int (bal f (l.take i))), od] ∧ T = S
theorem bal_turn (x y : Option D) (s : Int) (e : Ev) (S : Sto) : L0_law_balance [x, y, some (.int s), some e.d] S = .next [x, y, some (.int (step s e)), some e.d] S := by
  cases e with
  | pay n b m p => simp [mFn, mSq, mSkip, mPut, tName, mOwn, mDo, mRet, mIf, bindS, mC, mVar, mOp, mUn, bindX, pureX, ofO, mCons, mNil, mTup, mLst, mCal, mTst, mTru, mAndT, mOrT, mNotT, mAnd, mOr, mNot, truth, asBl, a_int, fSub, fMul, fMod, p4, p9, p12, p13, p18, fLt, fLe, fGt, fGe, x_tup, x_lst, fNeg, fIs, isD, fIsi, isi, kInt, kLen, kMin2, kMax2, mCall, sz_eq, L0_law_balance, Ev.d, step, L2.atI, L2.ixN]
  | inn a => simp [mFn, mSq, mSkip, mPut, tName, mOwn, mDo, mRet, mIf, bindS, mC, mVar, mOp, mUn, bindX, pureX, ofO, mCons, mNil, mTup, mLst, mCal, mTst, mTru, mAndT, mOrT, mNotT, mAnd, mOr, mNot, truth, asBl, a_int, fSub, fMul, fMod, p4, p9, p12, p13, p18, fLt, fLe, fGt, fGe, x_tup, x_lst, fNeg, fIs, isD, fIsi, isi, kInt, kLen, kMin2, kMax2, mCall, sz_eq, L0_law_balance, Ev.d, step, L2.atI, L2.ixN]
theorem balance_at (f : Int) (l : List Ev) (S : Sto) : F__law_balance [.int f, evs l] S = .ok (.int (bal f l)) S := by
  obtain ⟨sl', S', h1, od, rfl, rfl⟩ := loop_ind (t := tName 3) (mb := L0_law_balance) (P := PB f l S) (l.map Ev.d) 0 [some (.int f), some (evs l), some (.int f), none] S ⟨none, rfl, rfl⟩ (fun i d sl T hi hp => by
    rw [Nat.zero_add] at hp ⊢
    obtain ⟨od, rfl, rfl⟩ := hp
    rw [List.getElem?_map] at hi
    cases he : l[i]? with
    | none => rw [he] at hi; cases hi
    | some e =>
      rw [he] at hi
      cases hi
      refine ⟨[some (.int f), some (evs l), some (.int (bal f (l.take i))), some e.d], _, _, rfl, bal_turn _ _ _ _ _, some e.d, ?_, rfl⟩
      have q : l.take (i + 1) = l.take i ++ [e] := by rw [List.take_succ, he]; rfl
      rw [q, bal_app])
  rw [Nat.zero_add, List.length_map, List.take_length] at h1
  have a1 : mPut (tName 2) (mVar 0) [some (.int f), some (evs l), none, none] S' = .next [some (.int f), some (evs l), some (.int f), none] S' := e_put rfl
  have a2 : mFor (mSeq (mVar 1)) (tName 3) L0_law_balance [some (.int f), some (evs l), some (.int f), none] S' = _ := e_for (S' := S') (ds := l.map Ev.d) rfl h1
  exact e_fn (e_sq a1 (e_sq a2 (e_ret rfl)))
/-! ### deeds -/
inductive De where
  | pay (n : Str) (b : Int) (m : Str) (p : Int) | inn (a : Int) | back
def De.d : De → D
  | .pay n b m p => .tup [.str "pay", .str n, .int b, .str m, .int p]
  | .inn a => .tup [.str "pay_in", .int a]
  | .back => .tup [.str "take_back", .int 0]
inductive Due where
  | ok0 | okv (e : Ev) | noCoins (p b : Int) | badCoins (a : Int) | nothing
def Due.d : Due → D
  | .ok0 => .tup [.str "ok", .non]
  | .okv e => .tup [.str "ok", e.d]
  | .noCoins p b => .tup [.str "NoCoins", .int p, .int b]
  | .badCoins a => .tup [.str "BadCoins", .int a]
  | .nothing => .tup [.str "NothingToUndo", .non]
def due (f : Int) (l : List Ev) : De → Due
  | .pay _ _ _ p => if bal f l < p then .noCoins p (bal f l) else .ok0
  | .inn a => if a < 1 ∨ 1000000000 < a ∨ 1000000000000 < bal f l + a then .badCoins a else .ok0
  | .back => match l.getLast? with
    | some e => .okv e
    | none => .nothing
/-- the events behind a deed -/
def behind (l : List Ev) (u : Due) : De → List Ev
  | .pay n b m p => match u with
    | .ok0 => l ++ [.pay n b m p]
    | _ => l
  | .inn a => match u with
    | .ok0 => l ++ [.inn a]
    | _ => l
  | .back => match u with
    | .okv _ => l.dropLast
    | _ => l
end K29
set_option Elab.async false
set_option linter.all false
set_option maxRecDepth 100000
set_option maxHeartbeats 4000000
namespace K29
open PySem Sm
theorem q_str (a b : Str) : fEq (.str a) (.str b) = some (.bl (decide (a = b))) := rfl
theorem q_int (a b : Int) : fEq (.int a) (.int b) = some (.bl (decide (a = b))) := rfl
theorem n_str (a b : Str) : fNe (.str a) (.str b) = some (.bl (!decide (a = b))) := rfl
theorem n_int (a b : Int) : fNe (.int a) (.int b) = some (.bl (!decide (a = b))) := rfl
theorem n_bl (a b : Bool) : fNe (.bl a) (.bl b) = some (.bl (!decide (a = b))) := rfl
theorem sne1 : ¬ (("pay_in" : Str) = "pay") := by decide
theorem sne2 : ¬ (("take_back" : Str) = "pay") := by decide
theorem sne3 : ¬ (("take_back" : Str) = "pay_in") := by decide
theorem sne4 : ¬ (("NoCoins" : Str) = "ok") := by decide
theorem sne5 : ¬ (("BadCoins" : Str) = "ok") := by decide
theorem sne6 : ¬ (("NothingToUndo" : Str) = "ok") := by decide
/-! ### the due answer -/
theorem bal_call (f : Int) (l : List Ev) (x : Option D) (S : Sto) : mCall F__law_balance (mCons (mVar 1) (mCons (mVar 2) mNil)) [x, some (.int f), some (evs l), none] S = .ok (.int (bal f l)) S := by
  show F__law_balance [.int f, evs l] S = _
  exact balance_at f l S
/-- the texts of what happened can be laid out -/
def Ev.okS : Ev → Prop
  | .pay n _ m _ => PyData.strOk n = true ∧ PyData.strOk m = true
  | .inn _ => True
def Ev.py : Ev → PyData
  | .pay n b m p => .tuple [.str n, .int b, .str m, .int p]
  | .inn a => .int a
theorem py_ev (e : Ev) : toPy e.d = some e.py := by cases e <;> simp [Ev.d, Ev.py, toPy, toPys]
theorem py_evs : ∀ l : List Ev, toPys (l.map Ev.d) = some (l.map Ev.py)
  | [] => rfl
  | e :: r => by simp [toPys, py_ev, py_evs r]
theorem lay_ev (e : Ev) (h : e.okS) : PyData.canLay0 e.py = true := by
  cases e with
  | pay n b m p => simp [Ev.py, PyData.canLay0, PyData.canLayAll0, h.1, h.2]
  | inn a => rfl
theorem lay_evs : ∀ l : List Ev, (∀ e ∈ l, e.okS) → PyData.canLayAll0 (l.map Ev.py) = true
  | [], _ => rfl
  | e :: r, h => by simp [PyData.canLayAll0, lay_ev e (h e List.mem_cons_self), lay_evs r fun x hx => h x (List.mem_cons_of_mem _ hx)]
theorem dep_ev (e : Ev) : PyData.depth e.py ≤ 1 := by cases e <;> simp [Ev.py, PyData.depth, PyData.depthAll]
theorem dep_evs : ∀ l : List Ev, PyData.depthAll (l.map Ev.py) ≤ 1
  | [] => by simp [PyData.depthAll]
  | e :: r => by
    have h1 := dep_ev e
    have h2 := dep_evs r
    simp only [List.map_cons, PyData.depthAll]
    omega
theorem nil_eq (l : List Ev) (h : ∀ e ∈ l, e.okS) : fEq (evs l) (.lst []) = some (.bl l.isEmpty) := by
  have e1 : toPy (evs l) = some (.list (l.map Ev.py)) := by simp [evs, toPy, py_evs]
  have e2 : toPy (.lst []) = some (.list []) := by simp [toPy, toPys]
  have s1 : SeqAt.shaped (.list (l.map Ev.py)) = true := by
    have := dep_evs l
    unfold SeqAt.shaped
    simp only [PyData.canLay0, lay_evs l h, PyData.depth, Bool.true_and, decide_eq_true_eq]
    exact decide_eq_true (Nat.le_trans (Nat.add_le_add_right this 1) (by decide))
  have s2 : SeqAt.shaped (.list []) = true := by decide
  show (dEqv (evs l) (.lst [])).map D.bl = _
  unfold dEqv
  rw [e1, e2]
  simp only [s1, s2, and_self, if_true, Option.map_some]
  cases l <;> rfl
theorem last_ix (l : List Ev) (e : Ev) (h : l.getLast? = some e) : fIx (evs l) (.int (-1)) = some e.d := by
  have hl : l ≠ [] := fun z => by rw [z] at h; cases h
  have h0 : 0 < l.length := by cases l with | nil => exact absurd rfl hl | cons _ _ => simp
  have h1 : l[l.length - 1]? = some e := by rw [List.getLast?_eq_getElem?] at h; exact h
  show L2.atI (l.map Ev.d) (-1) = _
  unfold L2.atI
  have hx : L2.ixN (l.map Ev.d).length (-1) = some (l.length - 1) := by
    unfold L2.ixN
    rw [List.length_map, if_neg (by omega), if_pos (by omega)]
    congr 1
    omega
  rw [hx]
  show (l.map Ev.d)[l.length - 1]? = _
  rw [List.getElem?_map, h1]; rfl
theorem due_at (f : Int) (l : List Ev) (de : De) (h : ∀ e ∈ l, e.okS) (S : Sto) : F__law_due [de.d, .int f, evs l] S = .ok (due f l de).d S := by
  have a1 : mPut (tName 3) (mCall F__law_balance (mCons (mVar 1) (mCons (mVar 2) mNil))) [some de.d, some (.int f), some (evs l), none] S = .next [some de.d, some (.int f), some (evs l), some (.int (bal f l))] S := e_put (bal_call f l _ S)
  refine e_fn (e_sq a1 ?_)
  obtain ⟨b, hb⟩ : ∃ b, b = bal f l := ⟨_, rfl⟩
  cases de with
  | pay n bd m p =>
    by_cases hp : b < p
    · simp [mFn, mSq, mSkip, mPut, tName, mOwn, mDo, mRet, mIf, bindS, mC, mVar, mOp, mUn, bindX, pureX, ofO, mCons, mNil, mTup, mLst, mCal, mTst, mTru, mAndT, mOrT, mNotT, mAnd, mOr, mNot, truth, asBl, a_int, fSub, fMul, fMod, p4, p9, p12, p13, p18, fLt, fLe, fGt, fGe, q_str, q_int, n_str, n_int, n_bl, sne1, sne2, sne3, sne4, sne5, sne6, x_tup, x_lst, fNeg, fIs, isD, fIsi, isi, kInt, kLen, kMin2, kMax2, mCall, sz_eq, De.d, due, Due.d, L2.atI, L2.ixN, ← hb, hp]
    · simp [mFn, mSq, mSkip, mPut, tName, mOwn, mDo, mRet, mIf, bindS, mC, mVar, mOp, mUn, bindX, pureX, ofO, mCons, mNil, mTup, mLst, mCal, mTst, mTru, mAndT, mOrT, mNotT, mAnd, mOr, mNot, truth, asBl, a_int, fSub, fMul, fMod, p4, p9, p12, p13, p18, fLt, fLe, fGt, fGe, q_str, q_int, n_str, n_int, n_bl, sne1, sne2, sne3, sne4, sne5, sne6, x_tup, x_lst, fNeg, fIs, isD, fIsi, isi, kInt, kLen, kMin2, kMax2, mCall, sz_eq, De.d, due, Due.d, L2.atI, L2.ixN, ← hb, hp]
  | inn a =>
    by_cases h1 : a < 1
    · simp [mFn, mSq, mSkip, mPut, tName, mOwn, mDo, mRet, mIf, bindS, mC, mVar, mOp, mUn, bindX, pureX, ofO, mCons, mNil, mTup, mLst, mCal, mTst, mTru, mAndT, mOrT, mNotT, mAnd, mOr, mNot, truth, asBl, a_int, fSub, fMul, fMod, p4, p9, p12, p13, p18, fLt, fLe, fGt, fGe, q_str, q_int, n_str, n_int, n_bl, sne1, sne2, sne3, sne4, sne5, sne6, x_tup, x_lst, fNeg, fIs, isD, fIsi, isi, kInt, kLen, kMin2, kMax2, mCall, sz_eq, De.d, due, Due.d, L2.atI, L2.ixN, ← hb, h1]
    · by_cases h2 : 1000000000 < a
      · simp [mFn, mSq, mSkip, mPut, tName, mOwn, mDo, mRet, mIf, bindS, mC, mVar, mOp, mUn, bindX, pureX, ofO, mCons, mNil, mTup, mLst, mCal, mTst, mTru, mAndT, mOrT, mNotT, mAnd, mOr, mNot, truth, asBl, a_int, fSub, fMul, fMod, p4, p9, p12, p13, p18, fLt, fLe, fGt, fGe, q_str, q_int, n_str, n_int, n_bl, sne1, sne2, sne3, sne4, sne5, sne6, x_tup, x_lst, fNeg, fIs, isD, fIsi, isi, kInt, kLen, kMin2, kMax2, mCall, sz_eq, De.d, due, Due.d, L2.atI, L2.ixN, ← hb, h1, h2]
      · by_cases h3 : 1000000000000 < b + a
        · simp [mFn, mSq, mSkip, mPut, tName, mOwn, mDo, mRet, mIf, bindS, mC, mVar, mOp, mUn, bindX, pureX, ofO, mCons, mNil, mTup, mLst, mCal, mTst, mTru, mAndT, mOrT, mNotT, mAnd, mOr, mNot, truth, asBl, a_int, fSub, fMul, fMod, p4, p9, p12, p13, p18, fLt, fLe, fGt, fGe, q_str, q_int, n_str, n_int, n_bl, sne1, sne2, sne3, sne4, sne5, sne6, x_tup, x_lst, fNeg, fIs, isD, fIsi, isi, kInt, kLen, kMin2, kMax2, mCall, sz_eq, De.d, due, Due.d, L2.atI, L2.ixN, ← hb, h1, h2, h3]
        · simp [mFn, mSq, mSkip, mPut, tName, mOwn, mDo, mRet, mIf, bindS, mC, mVar, mOp, mUn, bindX, pureX, ofO, mCons, mNil, mTup, mLst, mCal, mTst, mTru, mAndT, mOrT, mNotT, mAnd, mOr, mNot, truth, asBl, a_int, fSub, fMul, fMod, p4, p9, p12, p13, p18, fLt, fLe, fGt, fGe, q_str, q_int, n_str, n_int, n_bl, sne1, sne2, sne3, sne4, sne5, sne6, x_tup, x_lst, fNeg, fIs, isD, fIsi, isi, kInt, kLen, kMin2, kMax2, mCall, sz_eq, De.d, due, Due.d, L2.atI, L2.ixN, ← hb, h1, h2, h3]
  | back =>
    have q := nil_eq l h
    cases hl : l.getLast? with
    | none =>
      have : l = [] := List.getLast?_eq_none_iff.mp hl
      subst this
      simp [mFn, mSq, mSkip, mPut, tName, mOwn, mDo, mRet, mIf, bindS, mC, mVar, mOp, mUn, bindX, pureX, ofO, mCons, mNil, mTup, mLst, mCal, mTst, mTru, mAndT, mOrT, mNotT, mAnd, mOr, mNot, truth, asBl, a_int, fSub, fMul, fMod, p4, p9, p12, p13, p18, fLt, fLe, fGt, fGe, q_str, q_int, n_str, n_int, n_bl, sne1, sne2, sne3, sne4, sne5, sne6, x_tup, x_lst, fNeg, fIs, isD, fIsi, isi, kInt, kLen, kMin2, kMax2, mCall, sz_eq, De.d, due, Due.d, L2.atI, L2.ixN, q]
    | some e =>
      have hne : l.isEmpty = false := by cases l with | nil => cases hl | cons _ _ => rfl
      rw [hne] at q
      simp [mFn, mSq, mSkip, mPut, tName, mOwn, mDo, mRet, mIf, bindS, mC, mVar, mOp, mUn, bindX, pureX, ofO, mCons, mNil, mTup, mLst, mCal, mTst, mTru, mAndT, mOrT, mNotT, mAnd, mOr, mNot, truth, asBl, a_int, fSub, fMul, fMod, p4, p9, p12, p13, p18, fLt, fLe, fGt, fGe, q_str, q_int, n_str, n_int, n_bl, sne1, sne2, sne3, sne4, sne5, sne6, x_tup, x_lst, fNeg, fIs, isD, fIsi, isi, kInt, kLen, kMin2, kMax2, mCall, sz_eq, De.d, due, Due.d, L2.atI, L2.ixN, q, last_ix l e hl, hl]
end K29
set_option Elab.async false
set_option linter.all false
set_option maxRecDepth 100000
set_option maxHeartbeats 4000000
namespace K29
open PySem Sm
/-! ### what is the same -/
def okd : Nat → D → Prop
  | 0, _ => False
  | n + 1, d => match d with
    | .non => True
    | .int _ => True
    | .str _ => True
    | .tup xs => xs.length < 900 ∧ ∀ x ∈ xs, okd n x
    | .lst xs => xs.length < 900 ∧ ∀ x ∈ xs, okd n x
    | _ => False
theorem isint_at (i : Int) (S : Sto) : F__law_is_integer [.int i] S = .ok (.bl true) S := by simp [mFn, mSq, mSkip, mPut, tName, mOwn, mDo, mRet, mIf, bindS, mC, mVar, mOp, mUn, bindX, pureX, ofO, mCons, mNil, mTup, mLst, mCal, mTst, mTru, mAndT, mOrT, mNotT, mAnd, mOr, mNot, truth, asBl, a_int, fSub, fMul, fMod, p4, p9, p12, p13, p18, fLt, fLe, fGt, fGe, q_str, q_int, n_str, n_int, n_bl, sne1, sne2, sne3, sne4, sne5, sne6, x_tup, x_lst, fNeg, fIs, isD, fIsi, isi, kInt, kLen, kMin2, kMax2, mCall, sz_eq, F__law_is_integer, m__law_is_integer]
theorem same_turn (F : Fn) (a b : D) (i : Int) (x : D) (S : Sto) (h1 : fIx a (.int i) = some x) (h2 : fIx b (.int i) = some x) (hF : F [x, x] S = .ok (.bl true) S) : L0_law_same F [some a, some b, some (.int i)] S = .next [some a, some b, some (.int i)] S :=
  e_iff (S' := S) (by simp [mNotT, mTru, mCall, mCons, mNil, mOp, mVar, bindX, pureX, ofO, h1, h2, hF, truth]) e_skip
theorem ix_tup {xs : List D} {i : Nat} {x : D} (h : xs[i]? = some x) : fIx (.tup xs) (.int i) = some x := by
  have hi := (List.getElem?_eq_some_iff.mp h).1
  show L2.atI xs i = _
  unfold L2.atI L2.ixN
  rw [if_pos (by omega), if_pos (by omega)]
  exact h
theorem ix_lst {xs : List D} {i : Nat} {x : D} (h : xs[i]? = some x) : fIx (.lst xs) (.int i) = some x := ix_tup h
theorem same_loop (F : Fn) (d : D) (xs : List D) (S : Sto) (hx : ∀ (i : Nat) (x : D), xs[i]? = some x → fIx d (.int i) = some x) (hF : ∀ x ∈ xs, F [x, x] S = .ok (.bl true) S) :
    ∃ od, loopF (tName 2) (L0_law_same F) (rng 0 xs.length) [some d, some d, none] S = .next [some d, some d, od] S := by
  obtain ⟨sl', S', h1, od, rfl, rfl⟩ := loop_ind (t := tName 2) (mb := L0_law_same F) (P := fun i sl T => ∃ od, sl = [some d, some d, od] ∧ T = S) (rng 0 xs.length) 0 [some d, some d, none] S ⟨none, rfl, rfl⟩ (fun i e sl T hi hp => by
    obtain ⟨od, rfl, rfl⟩ := hp
    obtain ⟨hin, rfl⟩ := rng_at hi
    have hxi : xs[i]? = some xs[i] := by simp [hin]
    exact ⟨[some d, some d, some (.int i)], _, _, rfl, same_turn F d d i xs[i] T (hx i _ hxi) (hx i _ hxi) (hF _ (List.getElem_mem _)), _, rfl, rfl⟩)
  exact ⟨od, h1⟩
theorem same_at : ∀ (n : Nat) (d : D) (S : Sto), okd n d → F__law_same n [d, d] S = .ok (.bl true) S
  | 0, _, _, h => h.elim
  | n + 1, d, S, h => by
    show mFn 2 3 false (m__law_same (F__law_same n)) [d, d] S = _
    cases d with
    | non => exact e_fn (e_sqr (e_ift (S' := S) (by simp [mFn, mSq, mSkip, mPut, tName, mOwn, mDo, mRet, mIf, bindS, mC, mVar, mOp, mUn, bindX, pureX, ofO, mCons, mNil, mTup, mLst, mCal, mTst, mTru, mAndT, mOrT, mNotT, mAnd, mOr, mNot, truth, asBl, a_int, fSub, fMul, fMod, p4, p9, p12, p13, p18, fLt, fLe, fGt, fGe, q_str, q_int, n_str, n_int, n_bl, sne1, sne2, sne3, sne4, sne5, sne6, x_tup, x_lst, fNeg, fIs, isD, fIsi, isi, kInt, kLen, kMin2, kMax2, mCall, sz_eq]) (e_ret (by simp [mFn, mSq, mSkip, mPut, tName, mOwn, mDo, mRet, mIf, bindS, mC, mVar, mOp, mUn, bindX, pureX, ofO, mCons, mNil, mTup, mLst, mCal, mTst, mTru, mAndT, mOrT, mNotT, mAnd, mOr, mNot, truth, asBl, a_int, fSub, fMul, fMod, p4, p9, p12, p13, p18, fLt, fLe, fGt, fGe, q_str, q_int, n_str, n_int, n_bl, sne1, sne2, sne3, sne4, sne5, sne6, x_tup, x_lst, fNeg, fIs, isD, fIsi, isi, kInt, kLen, kMin2, kMax2, mCall, sz_eq]))))
    | int i => exact e_fn (e_sq (e_iff (S' := S) (by simp [mFn, mSq, mSkip, mPut, tName, mOwn, mDo, mRet, mIf, bindS, mC, mVar, mOp, mUn, bindX, pureX, ofO, mCons, mNil, mTup, mLst, mCal, mTst, mTru, mAndT, mOrT, mNotT, mAnd, mOr, mNot, truth, asBl, a_int, fSub, fMul, fMod, p4, p9, p12, p13, p18, fLt, fLe, fGt, fGe, q_str, q_int, n_str, n_int, n_bl, sne1, sne2, sne3, sne4, sne5, sne6, x_tup, x_lst, fNeg, fIs, isD, fIsi, isi, kInt, kLen, kMin2, kMax2, mCall, sz_eq]) e_skip) (e_sq (e_iff (S' := S) (by simp [mFn, mSq, mSkip, mPut, tName, mOwn, mDo, mRet, mIf, bindS, mC, mVar, mOp, mUn, bindX, pureX, ofO, mCons, mNil, mTup, mLst, mCal, mTst, mTru, mAndT, mOrT, mNotT, mAnd, mOr, mNot, truth, asBl, a_int, fSub, fMul, fMod, p4, p9, p12, p13, p18, fLt, fLe, fGt, fGe, q_str, q_int, n_str, n_int, n_bl, sne1, sne2, sne3, sne4, sne5, sne6, x_tup, x_lst, fNeg, fIs, isD, fIsi, isi, kInt, kLen, kMin2, kMax2, mCall, sz_eq]) e_skip) (e_sq (e_iff (S' := S) (by simp [mFn, mSq, mSkip, mPut, tName, mOwn, mDo, mRet, mIf, bindS, mC, mVar, mOp, mUn, bindX, pureX, ofO, mCons, mNil, mTup, mLst, mCal, mTst, mTru, mAndT, mOrT, mNotT, mAnd, mOr, mNot, truth, asBl, a_int, fSub, fMul, fMod, p4, p9, p12, p13, p18, fLt, fLe, fGt, fGe, q_str, q_int, n_str, n_int, n_bl, sne1, sne2, sne3, sne4, sne5, sne6, x_tup, x_lst, fNeg, fIs, isD, fIsi, isi, kInt, kLen, kMin2, kMax2, mCall, sz_eq]) e_skip) (e_sqr (e_ift (S' := S) (by simp [mFn, mSq, mSkip, mPut, tName, mOwn, mDo, mRet, mIf, bindS, mC, mVar, mOp, mUn, bindX, pureX, ofO, mCons, mNil, mTup, mLst, mCal, mTst, mTru, mAndT, mOrT, mNotT, mAnd, mOr, mNot, truth, asBl, a_int, fSub, fMul, fMod, p4, p9, p12, p13, p18, fLt, fLe, fGt, fGe, q_str, q_int, n_str, n_int, n_bl, sne1, sne2, sne3, sne4, sne5, sne6, x_tup, x_lst, fNeg, fIs, isD, fIsi, isi, kInt, kLen, kMin2, kMax2, mCall, sz_eq]) (e_ret (by simp [mFn, mSq, mSkip, mPut, tName, mOwn, mDo, mRet, mIf, bindS, mC, mVar, mOp, mUn, bindX, pureX, ofO, mCons, mNil, mTup, mLst, mCal, mTst, mTru, mAndT, mOrT, mNotT, mAnd, mOr, mNot, truth, asBl, a_int, fSub, fMul, fMod, p4, p9, p12, p13, p18, fLt, fLe, fGt, fGe, q_str, q_int, n_str, n_int, n_bl, sne1, sne2, sne3, sne4, sne5, sne6, x_tup, x_lst, fNeg, fIs, isD, fIsi, isi, kInt, kLen, kMin2, kMax2, mCall, sz_eq, isint_at])))))))
    | str x => exact e_fn (e_sq (e_iff (S' := S) (by simp [mFn, mSq, mSkip, mPut, tName, mOwn, mDo, mRet, mIf, bindS, mC, mVar, mOp, mUn, bindX, pureX, ofO, mCons, mNil, mTup, mLst, mCal, mTst, mTru, mAndT, mOrT, mNotT, mAnd, mOr, mNot, truth, asBl, a_int, fSub, fMul, fMod, p4, p9, p12, p13, p18, fLt, fLe, fGt, fGe, q_str, q_int, n_str, n_int, n_bl, sne1, sne2, sne3, sne4, sne5, sne6, x_tup, x_lst, fNeg, fIs, isD, fIsi, isi, kInt, kLen, kMin2, kMax2, mCall, sz_eq]) e_skip) (e_sq (e_iff (S' := S) (by simp [mFn, mSq, mSkip, mPut, tName, mOwn, mDo, mRet, mIf, bindS, mC, mVar, mOp, mUn, bindX, pureX, ofO, mCons, mNil, mTup, mLst, mCal, mTst, mTru, mAndT, mOrT, mNotT, mAnd, mOr, mNot, truth, asBl, a_int, fSub, fMul, fMod, p4, p9, p12, p13, p18, fLt, fLe, fGt, fGe, q_str, q_int, n_str, n_int, n_bl, sne1, sne2, sne3, sne4, sne5, sne6, x_tup, x_lst, fNeg, fIs, isD, fIsi, isi, kInt, kLen, kMin2, kMax2, mCall, sz_eq]) e_skip) (e_sq (e_iff (S' := S) (by simp [mFn, mSq, mSkip, mPut, tName, mOwn, mDo, mRet, mIf, bindS, mC, mVar, mOp, mUn, bindX, pureX, ofO, mCons, mNil, mTup, mLst, mCal, mTst, mTru, mAndT, mOrT, mNotT, mAnd, mOr, mNot, truth, asBl, a_int, fSub, fMul, fMod, p4, p9, p12, p13, p18, fLt, fLe, fGt, fGe, q_str, q_int, n_str, n_int, n_bl, sne1, sne2, sne3, sne4, sne5, sne6, x_tup, x_lst, fNeg, fIs, isD, fIsi, isi, kInt, kLen, kMin2, kMax2, mCall, sz_eq]) e_skip) (e_sq (e_iff (S' := S) (by simp [mFn, mSq, mSkip, mPut, tName, mOwn, mDo, mRet, mIf, bindS, mC, mVar, mOp, mUn, bindX, pureX, ofO, mCons, mNil, mTup, mLst, mCal, mTst, mTru, mAndT, mOrT, mNotT, mAnd, mOr, mNot, truth, asBl, a_int, fSub, fMul, fMod, p4, p9, p12, p13, p18, fLt, fLe, fGt, fGe, q_str, q_int, n_str, n_int, n_bl, sne1, sne2, sne3, sne4, sne5, sne6, x_tup, x_lst, fNeg, fIs, isD, fIsi, isi, kInt, kLen, kMin2, kMax2, mCall, sz_eq]) e_skip) (e_sqr (e_ift (S' := S) (by simp [mFn, mSq, mSkip, mPut, tName, mOwn, mDo, mRet, mIf, bindS, mC, mVar, mOp, mUn, bindX, pureX, ofO, mCons, mNil, mTup, mLst, mCal, mTst, mTru, mAndT, mOrT, mNotT, mAnd, mOr, mNot, truth, asBl, a_int, fSub, fMul, fMod, p4, p9, p12, p13, p18, fLt, fLe, fGt, fGe, q_str, q_int, n_str, n_int, n_bl, sne1, sne2, sne3, sne4, sne5, sne6, x_tup, x_lst, fNeg, fIs, isD, fIsi, isi, kInt, kLen, kMin2, kMax2, mCall, sz_eq]) (e_ret (by simp [mFn, mSq, mSkip, mPut, tName, mOwn, mDo, mRet, mIf, bindS, mC, mVar, mOp, mUn, bindX, pureX, ofO, mCons, mNil, mTup, mLst, mCal, mTst, mTru, mAndT, mOrT, mNotT, mAnd, mOr, mNot, truth, asBl, a_int, fSub, fMul, fMod, p4, p9, p12, p13, p18, fLt, fLe, fGt, fGe, q_str, q_int, n_str, n_int, n_bl, sne1, sne2, sne3, sne4, sne5, sne6, x_tup, x_lst, fNeg, fIs, isD, fIsi, isi, kInt, kLen, kMin2, kMax2, mCall, sz_eq]))))))))
    | tup xs =>
      obtain ⟨hl, hx⟩ := (show xs.length < 900 ∧ ∀ x ∈ xs, okd n x from h)
      obtain ⟨od, hloop⟩ := same_loop (F__law_same n) (.tup xs) xs S (fun i x q => ix_tup q) fun x q => same_at n x S (hx x q)
      have hlen : mCal kLen (mCons (mVar 1) mNil) [some (.tup xs), some (.tup xs), none] S = .ok (.int xs.length) S := by simp [mFn, mSq, mSkip, mPut, tName, mOwn, mDo, mRet, mIf, bindS, mC, mVar, mOp, mUn, bindX, pureX, ofO, mCons, mNil, mTup, mLst, mCal, mTst, mTru, mAndT, mOrT, mNotT, mAnd, mOr, mNot, truth, asBl, a_int, fSub, fMul, fMod, p4, p9, p12, p13, p18, fLt, fLe, fGt, fGe, q_str, q_int, n_str, n_int, n_bl, sne1, sne2, sne3, sne4, sne5, sne6, x_tup, x_lst, fNeg, fIs, isD, fIsi, isi, kInt, kLen, kMin2, kMax2, mCall, sz_eq]
      exact e_fn (e_sq (e_iff (S' := S) (by simp [mFn, mSq, mSkip, mPut, tName, mOwn, mDo, mRet, mIf, bindS, mC, mVar, mOp, mUn, bindX, pureX, ofO, mCons, mNil, mTup, mLst, mCal, mTst, mTru, mAndT, mOrT, mNotT, mAnd, mOr, mNot, truth, asBl, a_int, fSub, fMul, fMod, p4, p9, p12, p13, p18, fLt, fLe, fGt, fGe, q_str, q_int, n_str, n_int, n_bl, sne1, sne2, sne3, sne4, sne5, sne6, x_tup, x_lst, fNeg, fIs, isD, fIsi, isi, kInt, kLen, kMin2, kMax2, mCall, sz_eq]) e_skip) (e_sq (e_iff (S' := S) (by simp [mFn, mSq, mSkip, mPut, tName, mOwn, mDo, mRet, mIf, bindS, mC, mVar, mOp, mUn, bindX, pureX, ofO, mCons, mNil, mTup, mLst, mCal, mTst, mTru, mAndT, mOrT, mNotT, mAnd, mOr, mNot, truth, asBl, a_int, fSub, fMul, fMod, p4, p9, p12, p13, p18, fLt, fLe, fGt, fGe, q_str, q_int, n_str, n_int, n_bl, sne1, sne2, sne3, sne4, sne5, sne6, x_tup, x_lst, fNeg, fIs, isD, fIsi, isi, kInt, kLen, kMin2, kMax2, mCall, sz_eq]) e_skip) (e_sq (e_iff (S' := S) (by simp [mFn, mSq, mSkip, mPut, tName, mOwn, mDo, mRet, mIf, bindS, mC, mVar, mOp, mUn, bindX, pureX, ofO, mCons, mNil, mTup, mLst, mCal, mTst, mTru, mAndT, mOrT, mNotT, mAnd, mOr, mNot, truth, asBl, a_int, fSub, fMul, fMod, p4, p9, p12, p13, p18, fLt, fLe, fGt, fGe, q_str, q_int, n_str, n_int, n_bl, sne1, sne2, sne3, sne4, sne5, sne6, x_tup, x_lst, fNeg, fIs, isD, fIsi, isi, kInt, kLen, kMin2, kMax2, mCall, sz_eq]) e_skip) (e_sq (e_iff (S' := S) (by simp [mFn, mSq, mSkip, mPut, tName, mOwn, mDo, mRet, mIf, bindS, mC, mVar, mOp, mUn, bindX, pureX, ofO, mCons, mNil, mTup, mLst, mCal, mTst, mTru, mAndT, mOrT, mNotT, mAnd, mOr, mNot, truth, asBl, a_int, fSub, fMul, fMod, p4, p9, p12, p13, p18, fLt, fLe, fGt, fGe, q_str, q_int, n_str, n_int, n_bl, sne1, sne2, sne3, sne4, sne5, sne6, x_tup, x_lst, fNeg, fIs, isD, fIsi, isi, kInt, kLen, kMin2, kMax2, mCall, sz_eq]) e_skip) (e_sq (e_iff (S' := S) (by simp [mFn, mSq, mSkip, mPut, tName, mOwn, mDo, mRet, mIf, bindS, mC, mVar, mOp, mUn, bindX, pureX, ofO, mCons, mNil, mTup, mLst, mCal, mTst, mTru, mAndT, mOrT, mNotT, mAnd, mOr, mNot, truth, asBl, a_int, fSub, fMul, fMod, p4, p9, p12, p13, p18, fLt, fLe, fGt, fGe, q_str, q_int, n_str, n_int, n_bl, sne1, sne2, sne3, sne4, sne5, sne6, x_tup, x_lst, fNeg, fIs, isD, fIsi, isi, kInt, kLen, kMin2, kMax2, mCall, sz_eq]) e_skip) (e_sq (e_iff (S' := S) (by simp [mFn, mSq, mSkip, mPut, tName, mOwn, mDo, mRet, mIf, bindS, mC, mVar, mOp, mUn, bindX, pureX, ofO, mCons, mNil, mTup, mLst, mCal, mTst, mTru, mAndT, mOrT, mNotT, mAnd, mOr, mNot, truth, asBl, a_int, fSub, fMul, fMod, p4, p9, p12, p13, p18, fLt, fLe, fGt, fGe, q_str, q_int, n_str, n_int, n_bl, sne1, sne2, sne3, sne4, sne5, sne6, x_tup, x_lst, fNeg, fIs, isD, fIsi, isi, kInt, kLen, kMin2, kMax2, mCall, sz_eq]) e_skip) (e_sq (e_iff (S' := S) (by simp [mFn, mSq, mSkip, mPut, tName, mOwn, mDo, mRet, mIf, bindS, mC, mVar, mOp, mUn, bindX, pureX, ofO, mCons, mNil, mTup, mLst, mCal, mTst, mTru, mAndT, mOrT, mNotT, mAnd, mOr, mNot, truth, asBl, a_int, fSub, fMul, fMod, p4, p9, p12, p13, p18, fLt, fLe, fGt, fGe, q_str, q_int, n_str, n_int, n_bl, sne1, sne2, sne3, sne4, sne5, sne6, x_tup, x_lst, fNeg, fIs, isD, fIsi, isi, kInt, kLen, kMin2, kMax2, mCall, sz_eq]) e_skip) (e_sq (e_iff (S' := S) (by simp [mFn, mSq, mSkip, mPut, tName, mOwn, mDo, mRet, mIf, bindS, mC, mVar, mOp, mUn, bindX, pureX, ofO, mCons, mNil, mTup, mLst, mCal, mTst, mTru, mAndT, mOrT, mNotT, mAnd, mOr, mNot, truth, asBl, a_int, fSub, fMul, fMod, p4, p9, p12, p13, p18, fLt, fLe, fGt, fGe, q_str, q_int, n_str, n_int, n_bl, sne1, sne2, sne3, sne4, sne5, sne6, x_tup, x_lst, fNeg, fIs, isD, fIsi, isi, kInt, kLen, kMin2, kMax2, mCall, sz_eq]) e_skip) (e_sq (e_for (e_rng hlen (by omega) (by omega)) hloop) (e_ret rfl))))))))))
    | lst xs =>
      obtain ⟨hl, hx⟩ := (show xs.length < 900 ∧ ∀ x ∈ xs, okd n x from h)
      obtain ⟨od, hloop⟩ := same_loop (F__law_same n) (.lst xs) xs S (fun i x q => ix_lst q) fun x q => same_at n x S (hx x q)
      have hlen : mCal kLen (mCons (mVar 1) mNil) [some (.lst xs), some (.lst xs), none] S = .ok (.int xs.length) S := by simp [mFn, mSq, mSkip, mPut, tName, mOwn, mDo, mRet, mIf, bindS, mC, mVar, mOp, mUn, bindX, pureX, ofO, mCons, mNil, mTup, mLst, mCal, mTst, mTru, mAndT, mOrT, mNotT, mAnd, mOr, mNot, truth, asBl, a_int, fSub, fMul, fMod, p4, p9, p12, p13, p18, fLt, fLe, fGt, fGe, q_str, q_int, n_str, n_int, n_bl, sne1, sne2, sne3, sne4, sne5, sne6, x_tup, x_lst, fNeg, fIs, isD, fIsi, isi, kInt, kLen, kMin2, kMax2, mCall, sz_eq]
      exact e_fn (e_sq (e_iff (S' := S) (by simp [mFn, mSq, mSkip, mPut, tName, mOwn, mDo, mRet, mIf, bindS, mC, mVar, mOp, mUn, bindX, pureX, ofO, mCons, mNil, mTup, mLst, mCal, mTst, mTru, mAndT, mOrT, mNotT, mAnd, mOr, mNot, truth, asBl, a_int, fSub, fMul, fMod, p4, p9, p12, p13, p18, fLt, fLe, fGt, fGe, q_str, q_int, n_str, n_int, n_bl, sne1, sne2, sne3, sne4, sne5, sne6, x_tup, x_lst, fNeg, fIs, isD, fIsi, isi, kInt, kLen, kMin2, kMax2, mCall, sz_eq]) e_skip) (e_sq (e_iff (S' := S) (by simp [mFn, mSq, mSkip, mPut, tName, mOwn, mDo, mRet, mIf, bindS, mC, mVar, mOp, mUn, bindX, pureX, ofO, mCons, mNil, mTup, mLst, mCal, mTst, mTru, mAndT, mOrT, mNotT, mAnd, mOr, mNot, truth, asBl, a_int, fSub, fMul, fMod, p4, p9, p12, p13, p18, fLt, fLe, fGt, fGe, q_str, q_int, n_str, n_int, n_bl, sne1, sne2, sne3, sne4, sne5, sne6, x_tup, x_lst, fNeg, fIs, isD, fIsi, isi, kInt, kLen, kMin2, kMax2, mCall, sz_eq]) e_skip) (e_sq (e_iff (S' := S) (by simp [mFn, mSq, mSkip, mPut, tName, mOwn, mDo, mRet, mIf, bindS, mC, mVar, mOp, mUn, bindX, pureX, ofO, mCons, mNil, mTup, mLst, mCal, mTst, mTru, mAndT, mOrT, mNotT, mAnd, mOr, mNot, truth, asBl, a_int, fSub, fMul, fMod, p4, p9, p12, p13, p18, fLt, fLe, fGt, fGe, q_str, q_int, n_str, n_int, n_bl, sne1, sne2, sne3, sne4, sne5, sne6, x_tup, x_lst, fNeg, fIs, isD, fIsi, isi, kInt, kLen, kMin2, kMax2, mCall, sz_eq]) e_skip) (e_sq (e_iff (S' := S) (by simp [mFn, mSq, mSkip, mPut, tName, mOwn, mDo, mRet, mIf, bindS, mC, mVar, mOp, mUn, bindX, pureX, ofO, mCons, mNil, mTup, mLst, mCal, mTst, mTru, mAndT, mOrT, mNotT, mAnd, mOr, mNot, truth, asBl, a_int, fSub, fMul, fMod, p4, p9, p12, p13, p18, fLt, fLe, fGt, fGe, q_str, q_int, n_str, n_int, n_bl, sne1, sne2, sne3, sne4, sne5, sne6, x_tup, x_lst, fNeg, fIs, isD, fIsi, isi, kInt, kLen, kMin2, kMax2, mCall, sz_eq]) e_skip) (e_sq (e_iff (S' := S) (by simp [mFn, mSq, mSkip, mPut, tName, mOwn, mDo, mRet, mIf, bindS, mC, mVar, mOp, mUn, bindX, pureX, ofO, mCons, mNil, mTup, mLst, mCal, mTst, mTru, mAndT, mOrT, mNotT, mAnd, mOr, mNot, truth, asBl, a_int, fSub, fMul, fMod, p4, p9, p12, p13, p18, fLt, fLe, fGt, fGe, q_str, q_int, n_str, n_int, n_bl, sne1, sne2, sne3, sne4, sne5, sne6, x_tup, x_lst, fNeg, fIs, isD, fIsi, isi, kInt, kLen, kMin2, kMax2, mCall, sz_eq]) e_skip) (e_sq (e_iff (S' := S) (by simp [mFn, mSq, mSkip, mPut, tName, mOwn, mDo, mRet, mIf, bindS, mC, mVar, mOp, mUn, bindX, pureX, ofO, mCons, mNil, mTup, mLst, mCal, mTst, mTru, mAndT, mOrT, mNotT, mAnd, mOr, mNot, truth, asBl, a_int, fSub, fMul, fMod, p4, p9, p12, p13, p18, fLt, fLe, fGt, fGe, q_str, q_int, n_str, n_int, n_bl, sne1, sne2, sne3, sne4, sne5, sne6, x_tup, x_lst, fNeg, fIs, isD, fIsi, isi, kInt, kLen, kMin2, kMax2, mCall, sz_eq]) e_skip) (e_sq (e_iff (S' := S) (by simp [mFn, mSq, mSkip, mPut, tName, mOwn, mDo, mRet, mIf, bindS, mC, mVar, mOp, mUn, bindX, pureX, ofO, mCons, mNil, mTup, mLst, mCal, mTst, mTru, mAndT, mOrT, mNotT, mAnd, mOr, mNot, truth, asBl, a_int, fSub, fMul, fMod, p4, p9, p12, p13, p18, fLt, fLe, fGt, fGe, q_str, q_int, n_str, n_int, n_bl, sne1, sne2, sne3, sne4, sne5, sne6, x_tup, x_lst, fNeg, fIs, isD, fIsi, isi, kInt, kLen, kMin2, kMax2, mCall, sz_eq]) e_skip) (e_sq (e_iff (S' := S) (by simp [mFn, mSq, mSkip, mPut, tName, mOwn, mDo, mRet, mIf, bindS, mC, mVar, mOp, mUn, bindX, pureX, ofO, mCons, mNil, mTup, mLst, mCal, mTst, mTru, mAndT, mOrT, mNotT, mAnd, mOr, mNot, truth, asBl, a_int, fSub, fMul, fMod, p4, p9, p12, p13, p18, fLt, fLe, fGt, fGe, q_str, q_int, n_str, n_int, n_bl, sne1, sne2, sne3, sne4, sne5, sne6, x_tup, x_lst, fNeg, fIs, isD, fIsi, isi, kInt, kLen, kMin2, kMax2, mCall, sz_eq]) e_skip) (e_sq (e_for (e_rng hlen (by omega) (by omega)) hloop) (e_ret rfl))))))))))
    | bl b => exact False.elim h
    | dK a => exact False.elim h
    | dT a => exact False.elim h
    | ref a => exact False.elim h
    | obj a b => exact False.elim h
end K29
set_option Elab.async false
set_option linter.all false
set_option maxRecDepth 100000
set_option maxHeartbeats 4000000
namespace K29
open PySem Sm
/-! ### the events behind a deed -/
theorem add_evs (l : List Ev) (e : Ev) (hl : l.length < 100) : fAdd (evs l) (.lst [e.d]) = some (evs (l ++ [e])) := by
  show (if (l.map Ev.d).length + [e.d].length ≤ sizeLine then some (D.lst (l.map Ev.d ++ [e.d])) else none) = _
  rw [if_pos (by rw [List.length_map, sz_eq]; simp; omega)]
  simp [evs]
theorem cut_last (l : List Ev) : fSl (evs l) none (some (-1)) = some (evs l.dropLast) := by
  show some (D.lst (cutD (l.map Ev.d) none (some (-1)))) = _
  congr 2
  unfold cutD
  show ((l.map Ev.d).drop 0).take (HT.sIx (l.map Ev.d).length (l.map Ev.d).length (some (-1)) - 0) = _
  rw [List.drop_zero, List.dropLast_eq_take, List.map_take]
  congr 1
  show ((-1 : Int) + ((l.map Ev.d).length : Int)).toNat - 0 = _
  rw [List.length_map]
  omega
theorem sl_at (l : List Ev) (sl : List (Option D)) (S : Sto) (h : sl[2]? = some (some (evs l))) : mSl (mVar 2) none (some (mUn fNeg (mC (.int 1)))) sl S = .ok (evs l.dropLast) S := by
  have h1 : mVar 2 sl S = .ok (evs l) S := by simp [mVar, h]
  have h2 : mPart (some (mUn fNeg (mC (.int 1)))) sl S = .ok (some (-1)) S := by simp [mPart, mUn, mC, bindX, ofO, fNeg, pureX]
  have h3 : mPart none sl S = .ok none S := by simp [mPart, pureX]
  simp only [mSl, bindX, h1, h2, h3, cut_last, ofO]
theorem behind_at (l : List Ev) (f : Int) (de : De) (hl : l.length < 100) (S : Sto) : F__law_behind [de.d, (due f l de).d, evs l] S = .ok (evs (behind l (due f l de) de)) S := by
  cases de with
  | pay n b m p =>
    have q := add_evs l (.pay n b m p) hl
    simp only [Ev.d] at q
    by_cases hp : bal f l < p
    · have e : due f l (.pay n b m p) = .noCoins p (bal f l) := by simp [due, hp]
      rw [e]
      exact e_fn (e_sqr (e_ift (S' := S) (by simp [mFn, mSq, mSkip, mPut, tName, mOwn, mDo, mRet, mIf, bindS, mC, mVar, mOp, mUn, bindX, pureX, ofO, mCons, mNil, mTup, mLst, mCal, mTst, mTru, mAndT, mOrT, mNotT, mAnd, mOr, mNot, truth, asBl, a_int, fSub, fMul, fMod, p4, p9, p12, p13, p18, fLt, fLe, fGt, fGe, q_str, q_int, n_str, n_int, n_bl, sne1, sne2, sne3, sne4, sne5, sne6, x_tup, x_lst, fNeg, fIs, isD, fIsi, isi, kInt, kLen, kMin2, kMax2, mCall, sz_eq, De.d, Due.d, L2.atI, L2.ixN]) (e_ret rfl)))
    · have e : due f l (.pay n b m p) = .ok0 := by simp [due, hp]
      rw [e]
      exact e_fn (e_sq (e_iff (S' := S) (by simp [mFn, mSq, mSkip, mPut, tName, mOwn, mDo, mRet, mIf, bindS, mC, mVar, mOp, mUn, bindX, pureX, ofO, mCons, mNil, mTup, mLst, mCal, mTst, mTru, mAndT, mOrT, mNotT, mAnd, mOr, mNot, truth, asBl, a_int, fSub, fMul, fMod, p4, p9, p12, p13, p18, fLt, fLe, fGt, fGe, q_str, q_int, n_str, n_int, n_bl, sne1, sne2, sne3, sne4, sne5, sne6, x_tup, x_lst, fNeg, fIs, isD, fIsi, isi, kInt, kLen, kMin2, kMax2, mCall, sz_eq, De.d, Due.d, L2.atI, L2.ixN]) e_skip) (e_sqr (e_ift (S' := S) (by simp [mFn, mSq, mSkip, mPut, tName, mOwn, mDo, mRet, mIf, bindS, mC, mVar, mOp, mUn, bindX, pureX, ofO, mCons, mNil, mTup, mLst, mCal, mTst, mTru, mAndT, mOrT, mNotT, mAnd, mOr, mNot, truth, asBl, a_int, fSub, fMul, fMod, p4, p9, p12, p13, p18, fLt, fLe, fGt, fGe, q_str, q_int, n_str, n_int, n_bl, sne1, sne2, sne3, sne4, sne5, sne6, x_tup, x_lst, fNeg, fIs, isD, fIsi, isi, kInt, kLen, kMin2, kMax2, mCall, sz_eq, De.d, Due.d, L2.atI, L2.ixN]) (e_ret (by simp [mFn, mSq, mSkip, mPut, tName, mOwn, mDo, mRet, mIf, bindS, mC, mVar, mOp, mUn, bindX, pureX, ofO, mCons, mNil, mTup, mLst, mCal, mTst, mTru, mAndT, mOrT, mNotT, mAnd, mOr, mNot, truth, asBl, a_int, fSub, fMul, fMod, p4, p9, p12, p13, p18, fLt, fLe, fGt, fGe, q_str, q_int, n_str, n_int, n_bl, sne1, sne2, sne3, sne4, sne5, sne6, x_tup, x_lst, fNeg, fIs, isD, fIsi, isi, kInt, kLen, kMin2, kMax2, mCall, sz_eq, De.d, Due.d, L2.atI, L2.ixN, q, behind])))))
  | inn a =>
    have q := add_evs l (.inn a) hl
    simp only [Ev.d] at q
    by_cases hp : a < 1 ∨ 1000000000 < a ∨ 1000000000000 < bal f l + a
    · have e : due f l (.inn a) = .badCoins a := by simp only [due]; rw [if_pos hp]
      rw [e]
      exact e_fn (e_sqr (e_ift (S' := S) (by simp [mFn, mSq, mSkip, mPut, tName, mOwn, mDo, mRet, mIf, bindS, mC, mVar, mOp, mUn, bindX, pureX, ofO, mCons, mNil, mTup, mLst, mCal, mTst, mTru, mAndT, mOrT, mNotT, mAnd, mOr, mNot, truth, asBl, a_int, fSub, fMul, fMod, p4, p9, p12, p13, p18, fLt, fLe, fGt, fGe, q_str, q_int, n_str, n_int, n_bl, sne1, sne2, sne3, sne4, sne5, sne6, x_tup, x_lst, fNeg, fIs, isD, fIsi, isi, kInt, kLen, kMin2, kMax2, mCall, sz_eq, De.d, Due.d, L2.atI, L2.ixN]) (e_ret rfl)))
    · have e : due f l (.inn a) = .ok0 := by simp only [due]; rw [if_neg hp]
      rw [e]
      exact e_fn (e_sq (e_iff (S' := S) (by simp [mFn, mSq, mSkip, mPut, tName, mOwn, mDo, mRet, mIf, bindS, mC, mVar, mOp, mUn, bindX, pureX, ofO, mCons, mNil, mTup, mLst, mCal, mTst, mTru, mAndT, mOrT, mNotT, mAnd, mOr, mNot, truth, asBl, a_int, fSub, fMul, fMod, p4, p9, p12, p13, p18, fLt, fLe, fGt, fGe, q_str, q_int, n_str, n_int, n_bl, sne1, sne2, sne3, sne4, sne5, sne6, x_tup, x_lst, fNeg, fIs, isD, fIsi, isi, kInt, kLen, kMin2, kMax2, mCall, sz_eq, De.d, Due.d, L2.atI, L2.ixN]) e_skip) (e_sq (e_iff (S' := S) (by simp [mFn, mSq, mSkip, mPut, tName, mOwn, mDo, mRet, mIf, bindS, mC, mVar, mOp, mUn, bindX, pureX, ofO, mCons, mNil, mTup, mLst, mCal, mTst, mTru, mAndT, mOrT, mNotT, mAnd, mOr, mNot, truth, asBl, a_int, fSub, fMul, fMod, p4, p9, p12, p13, p18, fLt, fLe, fGt, fGe, q_str, q_int, n_str, n_int, n_bl, sne1, sne2, sne3, sne4, sne5, sne6, x_tup, x_lst, fNeg, fIs, isD, fIsi, isi, kInt, kLen, kMin2, kMax2, mCall, sz_eq, De.d, Due.d, L2.atI, L2.ixN]) e_skip) (e_sqr (e_ift (S' := S) (by simp [mFn, mSq, mSkip, mPut, tName, mOwn, mDo, mRet, mIf, bindS, mC, mVar, mOp, mUn, bindX, pureX, ofO, mCons, mNil, mTup, mLst, mCal, mTst, mTru, mAndT, mOrT, mNotT, mAnd, mOr, mNot, truth, asBl, a_int, fSub, fMul, fMod, p4, p9, p12, p13, p18, fLt, fLe, fGt, fGe, q_str, q_int, n_str, n_int, n_bl, sne1, sne2, sne3, sne4, sne5, sne6, x_tup, x_lst, fNeg, fIs, isD, fIsi, isi, kInt, kLen, kMin2, kMax2, mCall, sz_eq, De.d, Due.d, L2.atI, L2.ixN]) (e_ret (by simp [mFn, mSq, mSkip, mPut, tName, mOwn, mDo, mRet, mIf, bindS, mC, mVar, mOp, mUn, bindX, pureX, ofO, mCons, mNil, mTup, mLst, mCal, mTst, mTru, mAndT, mOrT, mNotT, mAnd, mOr, mNot, truth, asBl, a_int, fSub, fMul, fMod, p4, p9, p12, p13, p18, fLt, fLe, fGt, fGe, q_str, q_int, n_str, n_int, n_bl, sne1, sne2, sne3, sne4, sne5, sne6, x_tup, x_lst, fNeg, fIs, isD, fIsi, isi, kInt, kLen, kMin2, kMax2, mCall, sz_eq, De.d, Due.d, L2.atI, L2.ixN, q, behind]))))))
  | back =>
    cases hg : l.getLast? with
    | none =>
      have e : due f l .back = .nothing := by simp [due, hg]
      rw [e]
      exact e_fn (e_sqr (e_ift (S' := S) (by simp [mFn, mSq, mSkip, mPut, tName, mOwn, mDo, mRet, mIf, bindS, mC, mVar, mOp, mUn, bindX, pureX, ofO, mCons, mNil, mTup, mLst, mCal, mTst, mTru, mAndT, mOrT, mNotT, mAnd, mOr, mNot, truth, asBl, a_int, fSub, fMul, fMod, p4, p9, p12, p13, p18, fLt, fLe, fGt, fGe, q_str, q_int, n_str, n_int, n_bl, sne1, sne2, sne3, sne4, sne5, sne6, x_tup, x_lst, fNeg, fIs, isD, fIsi, isi, kInt, kLen, kMin2, kMax2, mCall, sz_eq, De.d, Due.d, L2.atI, L2.ixN]) (e_ret rfl)))
    | some x =>
      have e : due f l .back = .okv x := by simp [due, hg]
      rw [e]
      exact e_fn (e_sq (e_iff (S' := S) (by simp [mFn, mSq, mSkip, mPut, tName, mOwn, mDo, mRet, mIf, bindS, mC, mVar, mOp, mUn, bindX, pureX, ofO, mCons, mNil, mTup, mLst, mCal, mTst, mTru, mAndT, mOrT, mNotT, mAnd, mOr, mNot, truth, asBl, a_int, fSub, fMul, fMod, p4, p9, p12, p13, p18, fLt, fLe, fGt, fGe, q_str, q_int, n_str, n_int, n_bl, sne1, sne2, sne3, sne4, sne5, sne6, x_tup, x_lst, fNeg, fIs, isD, fIsi, isi, kInt, kLen, kMin2, kMax2, mCall, sz_eq, De.d, Due.d, L2.atI, L2.ixN]) e_skip) (e_sq (e_iff (S' := S) (by simp [mFn, mSq, mSkip, mPut, tName, mOwn, mDo, mRet, mIf, bindS, mC, mVar, mOp, mUn, bindX, pureX, ofO, mCons, mNil, mTup, mLst, mCal, mTst, mTru, mAndT, mOrT, mNotT, mAnd, mOr, mNot, truth, asBl, a_int, fSub, fMul, fMod, p4, p9, p12, p13, p18, fLt, fLe, fGt, fGe, q_str, q_int, n_str, n_int, n_bl, sne1, sne2, sne3, sne4, sne5, sne6, x_tup, x_lst, fNeg, fIs, isD, fIsi, isi, kInt, kLen, kMin2, kMax2, mCall, sz_eq, De.d, Due.d, L2.atI, L2.ixN]) e_skip) (e_sq (e_iff (S' := S) (by simp [mFn, mSq, mSkip, mPut, tName, mOwn, mDo, mRet, mIf, bindS, mC, mVar, mOp, mUn, bindX, pureX, ofO, mCons, mNil, mTup, mLst, mCal, mTst, mTru, mAndT, mOrT, mNotT, mAnd, mOr, mNot, truth, asBl, a_int, fSub, fMul, fMod, p4, p9, p12, p13, p18, fLt, fLe, fGt, fGe, q_str, q_int, n_str, n_int, n_bl, sne1, sne2, sne3, sne4, sne5, sne6, x_tup, x_lst, fNeg, fIs, isD, fIsi, isi, kInt, kLen, kMin2, kMax2, mCall, sz_eq, De.d, Due.d, L2.atI, L2.ixN]) e_skip) (e_ret (sl_at l _ S rfl)))))
/-! ### the ledgers -/
/-- the ledger at i has begun with f and seen l -/
def Led (S : Sto) (i : Nat) (f : Int) (l : List Ev) : Prop := S[i]? = some ⟨5, [some (.int (bal f l)), some (evs l)]⟩
def pays (l : List Ev) : List D := (l.map Ev.d).filterMap fun d => match d with
  | .tup xs => some (.tup xs)
  | _ => none
theorem fld0 {S : Sto} {i : Nat} {f : Int} {l : List Ev} (h : Led S i f l) : rdF [(5, 0)] (.ref i) S = some (.int (bal f l)) := by
  unfold Led at h
  simp [rdF, h, List.lookup]
theorem fld1 {S : Sto} {i : Nat} {f : Int} {l : List Ev} (h : Led S i f l) : rdF [(5, 1)] (.ref i) S = some (evs l) := by
  unfold Led at h
  simp [rdF, h, List.lookup]
theorem lbal_at {S : Sto} {i : Nat} {f : Int} {l : List Ev} (h : Led S i f l) : F_Ledger_balance [.ref i] S = .ok (.int (bal f l)) S :=
  e_fn (e_ret (by simp [mFld, mVar, bindX, fld0 h]))
theorem pays_at {S : Sto} {i : Nat} {f : Int} {l : List Ev} (h : Led S i f l) (hl : l.length < 100) : F_Ledger_payments [.ref i] S = .ok (.lst (pays l)) S := by
  refine e_fn (e_ret (e_lc (ds := l.map Ev.d) _ ?_ (by rw [List.length_map]; omega) fun d hd => ?_))
  · simp [mSeq, mFld, mVar, bindX, fld1 h, evs, itD, ofO]
  · obtain ⟨e, _, rfl⟩ := List.mem_map.mp hd
    refine ⟨[some (.ref i), some e.d], by simp [wipeD, tName], ?_⟩
    cases e with
    | pay n b m p => exact .inr ⟨_, rfl, by simp [mFn, mSq, mSkip, mPut, tName, mOwn, mDo, mRet, mIf, bindS, mC, mVar, mOp, mUn, bindX, pureX, ofO, mCons, mNil, mTup, mLst, mCal, mTst, mTru, mAndT, mOrT, mNotT, mAnd, mOr, mNot, truth, asBl, a_int, fSub, fMul, fMod, p4, p9, p12, p13, p18, fLt, fLe, fGt, fGe, q_str, q_int, n_str, n_int, n_bl, sne1, sne2, sne3, sne4, sne5, sne6, x_tup, x_lst, fNeg, fIs, isD, fIsi, isi, kInt, kLen, kMin2, kMax2, mCall, sz_eq, CT0_Ledger_payments, Ev.d], by simp [mFn, mSq, mSkip, mPut, tName, mOwn, mDo, mRet, mIf, bindS, mC, mVar, mOp, mUn, bindX, pureX, ofO, mCons, mNil, mTup, mLst, mCal, mTst, mTru, mAndT, mOrT, mNotT, mAnd, mOr, mNot, truth, asBl, a_int, fSub, fMul, fMod, p4, p9, p12, p13, p18, fLt, fLe, fGt, fGe, q_str, q_int, n_str, n_int, n_bl, sne1, sne2, sne3, sne4, sne5, sne6, x_tup, x_lst, fNeg, fIs, isD, fIsi, isi, kInt, kLen, kMin2, kMax2, mCall, sz_eq, CE1_Ledger_payments, Ev.d]⟩
    | inn a => exact .inl ⟨rfl, by simp [mFn, mSq, mSkip, mPut, tName, mOwn, mDo, mRet, mIf, bindS, mC, mVar, mOp, mUn, bindX, pureX, ofO, mCons, mNil, mTup, mLst, mCal, mTst, mTru, mAndT, mOrT, mNotT, mAnd, mOr, mNot, truth, asBl, a_int, fSub, fMul, fMod, p4, p9, p12, p13, p18, fLt, fLe, fGt, fGe, q_str, q_int, n_str, n_int, n_bl, sne1, sne2, sne3, sne4, sne5, sne6, x_tup, x_lst, fNeg, fIs, isD, fIsi, isi, kInt, kLen, kMin2, kMax2, mCall, sz_eq, CT0_Ledger_payments, Ev.d]⟩
/-- what is paid for a name -/
def paid (x : Str) (l : List Ev) : List D := (pays l).filterMap fun d => match d with
  | .tup [.str n, _, _, p] => if n = x then some p else none
  | _ => none
end K29
set_option Elab.async false
set_option linter.all false
set_option maxRecDepth 100000
set_option maxHeartbeats 4000000
namespace K29
open PySem Sm
theorem e_meth {c : Nat} {F : Fn} {Fs : List (Nat × Fn)} {mo : Mx D} {ma : Mx (List D)} {o : D} {ds : List D} {sl : List (Option D)} {S S1 : Sto} (ho : mo sl S = .ok o S) (hc : clsOf S o = some c) (hl : Fs.lookup c = some F) (ha : ma sl S = .ok ds S1) : mMeth Fs mo ma sl S = F (o :: ds) S1 := by
  simp only [mMeth, bindX, ho, hc, Option.bind_some, hl, ha]
theorem led_cls {S : Sto} {i : Nat} {f : Int} {l : List Ev} (h : Led S i f l) : clsOf S (.ref i) = some 5 := by
  unfold Led at h
  simp [clsOf, h]
theorem e_call2 {F : Fn} {ma mb : Mx D} {a b r : D} {sl : List (Option D)} {S S2 : Sto} (ha : ma sl S = .ok a S) (hb : mb sl S = .ok b S) (h : F [a, b] S = .ok r S2) : mCall F (mCons ma (mCons mb mNil)) sl S = .ok r S2 := by
  simp only [mCall, mCons, mNil, bindX, pureX, ha, hb, h]
theorem e_callV2 {F : Fn} {ma mb : Mx D} {a b r : D} {sl : List (Option D)} {S S2 : Sto} (ha : ma sl S = .ok a S) (hb : mb sl S = .ok b S) (h : F [a, b] S = .ok r S2) (hr : atomD r = true) : mCallV F (mCons ma (mCons mb mNil)) sl S = .ok r S := by
  simp only [mCallV, mCons, mNil, bindX, pureX, ha, hb, h, hr, if_true]
theorem e_nott {m : Mx D} {sl : List (Option D)} {S S2 : Sto} (h : m sl S = .ok (.bl true) S2) : mNotT (mTru m) sl S = .ok false S2 := by
  simp only [mNotT, mTru, bindX, h, ofO, truth, pureX, Bool.not_true]
theorem e_or0 {a b : Mx Bool} {sl : List (Option D)} {S S1 S2 : Sto} (h : a sl S = .ok false S1) (h2 : b sl S1 = .ok false S2) : mOrT a b sl S = .ok false S2 := by
  simp only [mOrT, bindX, h, Bool.false_eq_true, if_false]; exact h2
/-! ### what is paid -/
def pints (x : Str) (l : List Ev) : List Int := l.filterMap fun e => match e with
  | .pay n _ _ p => if n = x then some p else none
  | .inn _ => none
theorem paid_ints (x : Str) : ∀ l : List Ev, paid x l = (pints x l).map D.int
  | [] => rfl
  | e :: r => by
    have ih := paid_ints x r
    unfold paid pays pints at ih ⊢
    cases e with
    | pay n b m p =>
      by_cases h : n = x
      · simpa [Ev.d, h] using ih
      · simpa [Ev.d, h] using ih
    | inn a => simpa [Ev.d] using ih
theorem toInts_map : ∀ l : List Int, toInts (l.map D.int) = some l
  | [] => rfl
  | i :: r => by simp [toInts, toInts_map r]
theorem pays_mem {l : List Ev} {d : D} (h : d ∈ pays l) : ∃ n b m p, d = .tup [.str n, .int b, .str m, .int p] ∧ Ev.pay n b m p ∈ l := by
  unfold pays at h
  obtain ⟨x, hx, hy⟩ := List.mem_filterMap.mp h
  obtain ⟨e, he, rfl⟩ := List.mem_map.mp hx
  cases e with
  | pay n b m p => simp [Ev.d] at hy; exact ⟨n, b, m, p, hy.symm, he⟩
  | inn a => simp [Ev.d] at hy
theorem pays_len (l : List Ev) : (pays l).length ≤ l.length := by
  unfold pays
  exact Nat.le_trans (List.length_filterMap_le _ _) (by rw [List.length_map]; exact Nat.le_refl _)
theorem pays_ok (l : List Ev) (hl : l.length < 100) : okd 6 (.lst (pays l)) := by
  refine ⟨by have := pays_len l; omega, fun d hd => ?_⟩
  obtain ⟨n, b, m, p, rfl, _⟩ := pays_mem hd
  refine ⟨by simp, fun x hx => ?_⟩
  simp at hx
  rcases hx with rfl | rfl | rfl | rfl <;> trivial
/-- the sum over a filter of the payments -/
theorem sum_at {tt : Mx Bool} {el : Mx D} {src : Mx (List D)} {v : Nat} {sl : List (Option D)} {S : Sto} {x : Str} {l : List Ev} (hl : l.length < 100) (hs : src sl S = .ok (pays l) S)
    (h : ∀ n b m p, ∃ sl', tName v (.tup [.str n, .int b, .str m, .int p]) (wipeD sl [v]) = some sl' ∧ tt sl' S = .ok (decide (n = x)) S ∧ el sl' S = .ok (.int p) S) :
    mCal kSum (mCons (mLc src (tName v) tt el [v]) mNil) sl S = .ok (.int (pints x l).sum) S := by
  have e : mLc src (tName v) tt el [v] sl S = .ok (.lst (paid x l)) S := by
    refine e_lc _ hs (by have := pays_len l; omega) fun d hd => ?_
    obtain ⟨n, b, m, p, rfl, _⟩ := pays_mem hd
    obtain ⟨sl', h1, h2, h3⟩ := h n b m p
    refine ⟨sl', h1, ?_⟩
    by_cases q : n = x
    · exact .inr ⟨.int p, by simp [q], by rw [h2]; simp [q], h3⟩
    · exact .inl ⟨by simp [q], by rw [h2]; simp [q]⟩
  rw [paid_ints] at e
  simp only [mCal, mCons, mNil, bindX, pureX, e, ofO, kSum, toInts_map, Option.map_some]
theorem spent_at {S : Sto} {i : Nat} {f : Int} {l : List Ev} (h : Led S i f l) (hl : l.length < 100) (x : Str) : F_Ledger_spent [.ref i, .str x] S = .ok (.int (pints x l).sum) S := by
  refine e_fn (e_ret (sum_at hl ?_ fun n b m p => ⟨[some (.ref i), some (.str x), some (.tup [.str n, .int b, .str m, .int p])], rfl, ?_, ?_⟩))
  · have e : mMeth [(5, F_Ledger_payments)] (mVar 0) mNil [some (.ref i), some (.str x), none] S = .ok (.lst (pays l)) S := by
      rw [e_meth (F := F_Ledger_payments) (o := .ref i) (ds := []) (S1 := S) rfl (led_cls h) rfl rfl]; exact pays_at h hl
    show mSeq _ [some (.ref i), some (.str x), none] S = _
    simp only [mSeq, bindX, e, itD, ofO]
  · simp [mFn, mSq, mSkip, mPut, tName, mOwn, mDo, mRet, mIf, bindS, mC, mVar, mOp, mUn, bindX, pureX, ofO, mCons, mNil, mTup, mLst, mCal, mTst, mTru, mAndT, mOrT, mNotT, mAnd, mOr, mNot, truth, asBl, a_int, fSub, fMul, fMod, p4, p9, p12, p13, p18, fLt, fLe, fGt, fGe, q_str, q_int, n_str, n_int, n_bl, sne1, sne2, sne3, sne4, sne5, sne6, x_tup, x_lst, fNeg, fIs, isD, fIsi, isi, kInt, kLen, kMin2, kMax2, mCall, sz_eq, CT0_Ledger_spent, L2.atI, L2.ixN]
  · simp [mFn, mSq, mSkip, mPut, tName, mOwn, mDo, mRet, mIf, bindS, mC, mVar, mOp, mUn, bindX, pureX, ofO, mCons, mNil, mTup, mLst, mCal, mTst, mTru, mAndT, mOrT, mNotT, mAnd, mOr, mNot, truth, asBl, a_int, fSub, fMul, fMod, p4, p9, p12, p13, p18, fLt, fLe, fGt, fGe, q_str, q_int, n_str, n_int, n_bl, sne1, sne2, sne3, sne4, sne5, sne6, x_tup, x_lst, fNeg, fIs, isD, fIsi, isi, kInt, kLen, kMin2, kMax2, mCall, sz_eq, CE1_Ledger_spent, L2.atI, L2.ixN]
/-! ### a ledger tells -/
theorem tells_turn {S : Sto} {i : Nat} {f : Int} {l : List Ev} (h : Led S i f l) (hl : l.length < 100) (a1 a2 a3 a5 o7 o8 : Option D) (x : Str) :
    L4_law_tells [some (.ref i), a1, a2, a3, some (.lst (pays l)), a5, some (.str x), o7, o8] S = .next [some (.ref i), a1, a2, a3, some (.lst (pays l)), a5, some (.str x), some (.int (pints x l).sum), o8] S := by
  have e1 : mPut (tName 7) (mCal kSum (mCons (mLc (mSeq (mVar 4)) (tName 8) CT2_law_tells CE3_law_tells [8]) mNil)) [some (.ref i), a1, a2, a3, some (.lst (pays l)), a5, some (.str x), o7, o8] S = .next [some (.ref i), a1, a2, a3, some (.lst (pays l)), a5, some (.str x), some (.int (pints x l).sum), o8] S :=
    e_put (sum_at hl rfl fun n b m p => ⟨[some (.ref i), a1, a2, a3, some (.lst (pays l)), a5, some (.str x), o7, some (.tup [.str n, .int b, .str m, .int p])], rfl, by simp [mFn, mSq, mSkip, mPut, tName, mOwn, mDo, mRet, mIf, bindS, mC, mVar, mOp, mUn, bindX, pureX, ofO, mCons, mNil, mTup, mLst, mCal, mTst, mTru, mAndT, mOrT, mNotT, mAnd, mOr, mNot, truth, asBl, a_int, fSub, fMul, fMod, p4, p9, p12, p13, p18, fLt, fLe, fGt, fGe, q_str, q_int, n_str, n_int, n_bl, sne1, sne2, sne3, sne4, sne5, sne6, x_tup, x_lst, fNeg, fIs, isD, fIsi, isi, kInt, kLen, kMin2, kMax2, mCall, sz_eq, CT2_law_tells, L2.atI, L2.ixN], by simp [mFn, mSq, mSkip, mPut, tName, mOwn, mDo, mRet, mIf, bindS, mC, mVar, mOp, mUn, bindX, pureX, ofO, mCons, mNil, mTup, mLst, mCal, mTst, mTru, mAndT, mOrT, mNotT, mAnd, mOr, mNot, truth, asBl, a_int, fSub, fMul, fMod, p4, p9, p12, p13, p18, fLt, fLe, fGt, fGe, q_str, q_int, n_str, n_int, n_bl, sne1, sne2, sne3, sne4, sne5, sne6, x_tup, x_lst, fNeg, fIs, isD, fIsi, isi, kInt, kLen, kMin2, kMax2, mCall, sz_eq, CE3_law_tells, L2.atI, L2.ixN]⟩)
  refine e_sq e1 (e_iff (S' := S) (e_nott (e_call2 (a := .int (pints x l).sum) (b := .int (pints x l).sum) ?_ rfl (same_at 6 _ S trivial))) e_skip)
  rw [e_meth (F := F_Ledger_spent) (o := .ref i) (ds := [.str x]) (S1 := S) rfl (led_cls h) rfl rfl]
  exact spent_at h hl x
end K29
set_option Elab.async false
set_option linter.all false
set_option maxRecDepth 100000
set_option maxHeartbeats 4000000
namespace K29
open PySem Sm
theorem e_ownapp {i : Nat} {ma : Mx (List D)} {sl : List (Option D)} {S : Sto} {xs : List D} {y : D} (hs : sl[i]? = some (some (.lst xs))) (ha : ma sl S = .ok [y] S) (hl : xs.length < 1000) : mOwnS oAppend i ma (fun _ => mSkip) sl S = .next (sl.set i (some (.lst (xs ++ [y])))) S := by
  have hln : xs.length < sizeLine := by rw [sz_eq]; omega
  unfold mOwnS
  simp only [hs, isLst, if_true, bindS, ha, oAppend, hln]
  rfl
theorem e_setix {i j : Nat} {mi me : Mx D} {sl : List (Option D)} {S : Sto} {xs : List D} {y : D} {z : Int} (hs : sl[i]? = some (some (.lst xs))) (hm : me sl S = .ok y S) (hi : mi sl S = .ok (.int z) S) (hx : L2.ixN xs.length z = some j) : mSetIx i mi me sl S = .next (sl.set i (some (.lst (xs.set j y)))) S := by
  unfold mSetIx
  simp only [bindS, hm, hs, hi, hx]
theorem bal_call9 (f : Int) (l : List Ev) (x0 x3 x4 x5 x6 x7 x8 : Option D) (S : Sto) : mCall F__law_balance (mCons (mVar 1) (mCons (mVar 2) mNil)) [x0, some (.int f), some (evs l), x3, x4, x5, x6, x7, x8] S = .ok (.int (bal f l)) S := by
  show F__law_balance [.int f, evs l] S = _
  exact balance_at f l S
theorem tells_at {S : Sto} {i : Nat} {f : Int} {l : List Ev} (h : Led S i f l) (hl : l.length < 100) (a b c : Str) : F__law_tells [.ref i, .int f, evs l, .lst [.str a, .str b, .str c]] S = .ok (.bl true) S := by
  obtain ⟨W, hW⟩ : ∃ W, W = D.lst [.str a, .str b, .str c] := ⟨_, rfl⟩
  have ev : mVar 2 [some (.ref i), some (.int f), some (evs l), some W, none, none, none, none, none] S = .ok (evs l) S := rfl
  have s1 : mPut (tName 4) (mLc (mSeq (mVar 2)) (tName 8) CT0_law_tells CE1_law_tells [8]) [some (.ref i), some (.int f), some (evs l), some W, none, none, none, none, none] S = .next [some (.ref i), some (.int f), some (evs l), some W, some (.lst (pays l)), none, none, none, none] S := by
    refine e_put (e_lc (ds := l.map Ev.d) _ ?_ (by rw [List.length_map]; omega) fun d hd => ?_)
    · rfl
    · obtain ⟨e, _, rfl⟩ := List.mem_map.mp hd
      refine ⟨[some (.ref i), some (.int f), some (evs l), some W, none, none, none, none, some e.d], rfl, ?_⟩
      cases e with
      | pay n b m p => exact .inr ⟨_, rfl, by simp [mFn, mSq, mSkip, mPut, tName, mOwn, mDo, mRet, mIf, bindS, mC, mVar, mOp, mUn, bindX, pureX, ofO, mCons, mNil, mTup, mLst, mCal, mTst, mTru, mAndT, mOrT, mNotT, mAnd, mOr, mNot, truth, asBl, a_int, fSub, fMul, fMod, p4, p9, p12, p13, p18, fLt, fLe, fGt, fGe, q_str, q_int, n_str, n_int, n_bl, sne1, sne2, sne3, sne4, sne5, sne6, x_tup, x_lst, fNeg, fIs, isD, fIsi, isi, kInt, kLen, kMin2, kMax2, mCall, sz_eq, CT0_law_tells, Ev.d], by simp [mFn, mSq, mSkip, mPut, tName, mOwn, mDo, mRet, mIf, bindS, mC, mVar, mOp, mUn, bindX, pureX, ofO, mCons, mNil, mTup, mLst, mCal, mTst, mTru, mAndT, mOrT, mNotT, mAnd, mOr, mNot, truth, asBl, a_int, fSub, fMul, fMod, p4, p9, p12, p13, p18, fLt, fLe, fGt, fGe, q_str, q_int, n_str, n_int, n_bl, sne1, sne2, sne3, sne4, sne5, sne6, x_tup, x_lst, fNeg, fIs, isD, fIsi, isi, kInt, kLen, kMin2, kMax2, mCall, sz_eq, CE1_law_tells, Ev.d]⟩
      | inn a => exact .inl ⟨rfl, by simp [mFn, mSq, mSkip, mPut, tName, mOwn, mDo, mRet, mIf, bindS, mC, mVar, mOp, mUn, bindX, pureX, ofO, mCons, mNil, mTup, mLst, mCal, mTst, mTru, mAndT, mOrT, mNotT, mAnd, mOr, mNot, truth, asBl, a_int, fSub, fMul, fMod, p4, p9, p12, p13, p18, fLt, fLe, fGt, fGe, q_str, q_int, n_str, n_int, n_bl, sne1, sne2, sne3, sne4, sne5, sne6, x_tup, x_lst, fNeg, fIs, isD, fIsi, isi, kInt, kLen, kMin2, kMax2, mCall, sz_eq, CT0_law_tells, Ev.d]⟩
  have mp : ∀ (x1 x2 x3 x4 x5 x6 x7 x8 : Option D), mMeth [(5, F_Ledger_payments)] (mVar 0) mNil [some (.ref i), x1, x2, x3, x4, x5, x6, x7, x8] S = .ok (.lst (pays l)) S := fun x1 x2 x3 x4 x5 x6 x7 x8 => by
    rw [e_meth (F := F_Ledger_payments) (o := .ref i) (ds := []) (S1 := S) rfl (led_cls h) rfl rfl]; exact pays_at h hl
  have s2 : mOwn 5 (mMeth [(5, F_Ledger_payments)] (mVar 0) mNil) [some (.ref i), some (.int f), some (evs l), some W, some (.lst (pays l)), none, none, none, none] S = .next [some (.ref i), some (.int f), some (evs l), some W, some (.lst (pays l)), some (.lst (pays l)), none, none, none] S := e_own (mp _ _ _ _ _ _ _ _)
  have mb : mMeth [(5, F_Ledger_balance)] (mVar 0) mNil [some (.ref i), some (.int f), some (evs l), some W, some (.lst (pays l)), some (.lst (pays l)), none, none, none] S = .ok (.int (bal f l)) S := by
    rw [e_meth (F := F_Ledger_balance) (o := .ref i) (ds := []) (S1 := S) rfl (led_cls h) rfl rfl]; exact lbal_at h
  have s4 := e_ownapp (i := 5) (ma := mCons (mTup (mCons (mOp fIx (mVar 3) (mC (.int 0))) (mCons (mC (.int 1)) (mCons (mC (.str "odd")) (mCons (mC (.int 7)) mNil))))) mNil) (sl := [some (.ref i), some (.int f), some (evs l), some W, some (.lst (pays l)), some (.lst (pays l)), none, none, none]) (S := S) (y := .tup [.str a, .int 1, .str "odd", .int 7]) rfl (by subst hW; simp [mFn, mSq, mSkip, mPut, tName, mOwn, mDo, mRet, mIf, bindS, mC, mVar, mOp, mUn, bindX, pureX, ofO, mCons, mNil, mTup, mLst, mCal, mTst, mTru, mAndT, mOrT, mNotT, mAnd, mOr, mNot, truth, asBl, a_int, fSub, fMul, fMod, p4, p9, p12, p13, p18, fLt, fLe, fGt, fGe, q_str, q_int, n_str, n_int, n_bl, sne1, sne2, sne3, sne4, sne5, sne6, x_tup, x_lst, fNeg, fIs, isD, fIsi, isi, kInt, kLen, kMin2, kMax2, mCall, sz_eq, L2.atI, L2.ixN]) (by have := pays_len l; omega)
  have s5 := e_setix (i := 5) (j := 0) (mi := mC (.int 0)) (me := mTup (mCons (mOp fIx (mVar 3) (mC (.int 1))) (mCons (mC (.int 1)) (mCons (mC (.str "edge")) (mCons (mC (.int 9)) mNil))))) (sl := [some (.ref i), some (.int f), some (evs l), some W, some (.lst (pays l)), some (.lst (pays l ++ [D.tup [.str a, .int 1, .str "odd", .int 7]])), none, none, none]) (S := S) (y := .tup [.str b, .int 1, .str "edge", .int 9]) (z := 0) rfl (by subst hW; simp [mFn, mSq, mSkip, mPut, tName, mOwn, mDo, mRet, mIf, bindS, mC, mVar, mOp, mUn, bindX, pureX, ofO, mCons, mNil, mTup, mLst, mCal, mTst, mTru, mAndT, mOrT, mNotT, mAnd, mOr, mNot, truth, asBl, a_int, fSub, fMul, fMod, p4, p9, p12, p13, p18, fLt, fLe, fGt, fGe, q_str, q_int, n_str, n_int, n_bl, sne1, sne2, sne3, sne4, sne5, sne6, x_tup, x_lst, fNeg, fIs, isD, fIsi, isi, kInt, kLen, kMin2, kMax2, mCall, sz_eq, L2.atI, L2.ixN]) rfl (by unfold L2.ixN; rw [if_pos (by omega), if_pos (by simp)]; rfl)
  obtain ⟨Y, hY⟩ : ∃ Y, Y = D.lst ((pays l ++ [D.tup [.str a, .int 1, .str "odd", .int 7]]).set 0 (.tup [.str b, .int 1, .str "edge", .int 9])) := ⟨_, rfl⟩
  have sw : mSeq (mOp fAdd (mVar 3) (mLst (mCons (mC (.str "")) (mCons (mC (.str "zz")) mNil)))) [some (.ref i), some (.int f), some (evs l), some W, some (.lst (pays l)), some Y, none, none, none] S = .ok (([a, b, c, "", "zz"] : List Str).map D.str) S := by
    subst hW
    simp [mFn, mSq, mSkip, mPut, tName, mOwn, mDo, mRet, mIf, bindS, mC, mVar, mOp, mUn, bindX, pureX, ofO, mCons, mNil, mTup, mLst, mCal, mTst, mTru, mAndT, mOrT, mNotT, mAnd, mOr, mNot, truth, asBl, a_int, fSub, fMul, fMod, p4, p9, p12, p13, p18, fLt, fLe, fGt, fGe, q_str, q_int, n_str, n_int, n_bl, sne1, sne2, sne3, sne4, sne5, sne6, x_tup, x_lst, fNeg, fIs, isD, fIsi, isi, kInt, kLen, kMin2, kMax2, mCall, sz_eq, mSeq, fAdd, itD]
  obtain ⟨sl', S', h6, ox, o7, rfl, rfl⟩ := loop_ind (t := tName 6) (mb := L4_law_tells) (P := fun _ sl T => ∃ ox o7, sl = [some (.ref i), some (.int f), some (evs l), some W, some (.lst (pays l)), some Y, ox, o7, none] ∧ T = S) (([a, b, c, "", "zz"] : List Str).map D.str) 0 [some (.ref i), some (.int f), some (evs l), some W, some (.lst (pays l)), some Y, none, none, none] S ⟨none, none, rfl, rfl⟩ (fun k d sl T hk hp => by
    obtain ⟨ox, o7, rfl, rfl⟩ := hp
    obtain ⟨x, _, rfl⟩ := List.mem_map.mp (List.mem_of_getElem? hk)
    exact ⟨_, _, _, rfl, tells_turn h hl _ _ _ _ _ _ x, _, _, rfl, rfl⟩)
  have s6 : mFor (mSeq (mOp fAdd (mVar 3) (mLst (mCons (mC (.str "")) (mCons (mC (.str "zz")) mNil))))) (tName 6) L4_law_tells [some (.ref i), some (.int f), some (evs l), some W, some (.lst (pays l)), some Y, none, none, none] S' = _ := e_for sw h6
  rw [← hY] at s5
  subst hW
  refine e_fn (e_sq s1 (e_sq s2 (e_sq (e_iff (S' := S') (e_or0 (S1 := S') (e_nott (e_callV2 (a := .lst (pays l)) (b := .lst (pays l)) (r := .bl true) rfl rfl (same_at 6 _ S' (pays_ok l hl)) rfl)) (e_nott (e_call2 (a := .int (bal f l)) (b := .int (bal f l)) mb (bal_call9 f l _ _ _ _ _ _ _ S') (same_at 6 _ S' trivial)))) e_skip) (e_sq s4 (e_sq s5 (e_sq s6 (e_ret (e_call2 (a := .lst (pays l)) (b := .lst (pays l)) (mp _ _ _ _ _ _ _ _) rfl (same_at 6 _ S' (pays_ok l hl))))))))))
end K29
set_option Elab.async false
set_option linter.all false
set_option maxRecDepth 100000
set_option maxHeartbeats 4000000
namespace K29
open PySem Sm
/-- a ledger's object -/
def lob (f : Int) (l : List Ev) : Ob := ⟨5, [some (.int (bal f l)), some (evs l)]⟩
theorem e_augF {h : Int → Int → Int} {mo me : Mx D} {sl : List (Option D)} {S : Sto} {i : Nat} {b j : Int} {x : Option D} (hS : S[i]? = some ⟨5, [some (.int b), x]⟩) (ho : mo sl S = .ok (.ref i) S) (he : me sl S = .ok (.int j) S) : mAugF h 5 0 mo me sl S = .next sl (S.set i ⟨5, [some (.int (h b j)), x]⟩) := by
  simp [mAugF, bindS, ho, getF, hS, he, wrF]
theorem e_ownF {mo : Mx D} {ma : Mx (List D)} {sl : List (Option D)} {S : Sto} {i : Nat} {xs : List D} {y : D} {x : Option D} (hS : S[i]? = some ⟨5, [x, some (.lst xs)]⟩) (ho : mo sl S = .ok (.ref i) S) (ha : ma sl S = .ok [y] S) (hl : xs.length < 1000) : mOwnF oAppend 5 1 mo ma (fun _ => mSkip) sl S = .next sl (S.set i ⟨5, [x, some (.lst (xs ++ [y]))]⟩) := by
  have hln : xs.length < 16777216 := by omega
  simp [mOwnF, bindS, ho, getF, hS, ha, isLst, oAppend, sz_eq, hln, mSkip]
theorem set_get {S : Sto} {i : Nat} {o o' : Ob} (h : S[i]? = some o) : (S.set i o')[i]? = some o' := List.getElem?_set_self (List.getElem?_eq_some_iff.mp h).1
theorem set_set {S : Sto} {i : Nat} {o o' : Ob} : (S.set i o).set i o' = S.set i o' := List.set_set ..
theorem set_same {S : Sto} {i : Nat} {o : Ob} (h : S[i]? = some o) : S.set i o = S := by
  refine List.ext_getElem? fun j => ?_
  by_cases z : i = j
  · subst z; rw [set_get h, h]
  · rw [List.getElem?_set_ne z]
theorem fldv {S : Sto} {i : Nat} {f : Int} {l : List Ev} (h : Led S i f l) (sl : List (Option D)) (h0 : sl[0]? = some (some (.ref i))) : mFld [(5, 0)] (mVar 0) sl S = .ok (.int (bal f l)) S := by
  simp [mFld, mVar, bindX, h0, fld0 h]
theorem pay_err {S : Sto} {i : Nat} {f : Int} {l : List Ev} (h : Led S i f l) (n : Str) (b : Int) (m : Str) (p : Int) (hp : bal f l < p) : F_Ledger_pay [.ref i, .str n, .int b, .str m, .int p] S = .err ⟨3, [.int p, .int (bal f l)]⟩ S := by
  have q := fldv h [some (.ref i), some (.str n), some (.int b), some (.str m), some (.int p)] rfl
  refine e_fne (sl' := [some (.ref i), some (.str n), some (.int b), some (.str m), some (.int p)]) (e_sqe (e_ift (S' := S) ?_ ?_))
  · simp [mTst, mOp, bindX, mVar, q, ofO, fGt, asBl, hp]
  · simp [mRaise, bindS, mCons, mNil, bindX, pureX, mVar, q]
theorem pay_ok {S : Sto} {i : Nat} {f : Int} {l : List Ev} (h : Led S i f l) (hl : l.length < 100) (n : Str) (b : Int) (m : Str) (p : Int) (hp : ¬ bal f l < p) : F_Ledger_pay [.ref i, .str n, .int b, .str m, .int p] S = .ok .non (S.set i (lob f (l ++ [.pay n b m p]))) := by
  have q := fldv h [some (.ref i), some (.str n), some (.int b), some (.str m), some (.int p)] rfl
  have a2 := e_augF (h := fun i j => i - j) (mo := mVar 0) (me := mVar 4) (sl := [some (.ref i), some (.str n), some (.int b), some (.str m), some (.int p)]) h rfl rfl
  have a3 := e_ownF (mo := mVar 0) (ma := mCons (mTup (mCons (mVar 1) (mCons (mVar 2) (mCons (mVar 3) (mCons (mVar 4) mNil))))) mNil) (sl := [some (.ref i), some (.str n), some (.int b), some (.str m), some (.int p)]) (xs := l.map Ev.d) (y := (Ev.pay n b m p).d) (set_get (o' := ⟨5, [some (.int (bal f l - p)), some (evs l)]⟩) h) rfl (by simp [mFn, mSq, mSkip, mPut, tName, mOwn, mDo, mRet, mIf, bindS, mC, mVar, mOp, mUn, bindX, pureX, ofO, mCons, mNil, mTup, mLst, mCal, mTst, mTru, mAndT, mOrT, mNotT, mAnd, mOr, mNot, truth, asBl, a_int, fSub, fMul, fMod, p4, p9, p12, p13, p18, fLt, fLe, fGt, fGe, q_str, q_int, n_str, n_int, n_bl, sne1, sne2, sne3, sne4, sne5, sne6, x_tup, x_lst, fNeg, fIs, isD, fIsi, isi, kInt, kLen, kMin2, kMax2, mCall, sz_eq, Ev.d]) (by rw [List.length_map]; omega)
  have e : lob f (l ++ [.pay n b m p]) = ⟨5, [some (.int (bal f l - p)), some (.lst (l.map Ev.d ++ [(Ev.pay n b m p).d]))]⟩ := by simp [lob, bal_app, step, evs]
  rw [e, ← set_set (o := ⟨5, [some (.int (bal f l - p)), some (evs l)]⟩)]
  refine e_fnn (sl' := [some (.ref i), some (.str n), some (.int b), some (.str m), some (.int p)]) (e_sq (e_iff (S' := S) ?_ e_skip) (e_sq a2 a3))
  simp [mTst, mOp, bindX, mVar, q, ofO, fGt, asBl, hp]
theorem inn_err {S : Sto} {i : Nat} {f : Int} {l : List Ev} (h : Led S i f l) (a : Int) (hp : a < 1 ∨ 1000000000 < a ∨ 1000000000000 < bal f l + a) : F_Ledger_pay_in [.ref i, .int a] S = .err ⟨2, [.int a]⟩ S := by
  have q := fldv h [some (.ref i), some (.int a)] rfl
  refine e_fne (sl' := [some (.ref i), some (.int a)]) (e_sqe (e_ift (S' := S) ?_ (by simp [mRaise, bindS, mCons, mNil, bindX, pureX, mVar])))
  by_cases h1 : a < 1
  · simp [mOrT, mTst, mOp, bindX, mVar, mC, ofO, fLt, asBl, h1, pureX]
  · by_cases h2 : 1000000000 < a
    · simp [mOrT, mTst, mOp, bindX, mVar, mC, ofO, fLt, fGt, asBl, h1, h2, pureX]
    · have h3 : 1000000000000 < bal f l + a := (hp.resolve_left h1).resolve_left h2
      simp [mOrT, mTst, mOp, bindX, mVar, mC, ofO, fLt, fGt, asBl, h1, h2, h3, q, a_int]
theorem inn_ok {S : Sto} {i : Nat} {f : Int} {l : List Ev} (h : Led S i f l) (hl : l.length < 100) (a : Int) (hp : ¬ (a < 1 ∨ 1000000000 < a ∨ 1000000000000 < bal f l + a)) : F_Ledger_pay_in [.ref i, .int a] S = .ok .non (S.set i (lob f (l ++ [.inn a]))) := by
  have q := fldv h [some (.ref i), some (.int a)] rfl
  have h1 : ¬ a < 1 := fun z => hp (.inl z)
  have h2 : ¬ 1000000000 < a := fun z => hp (.inr (.inl z))
  have h3 : ¬ 1000000000000 < bal f l + a := fun z => hp (.inr (.inr z))
  have a2 := e_augF (h := fun i j => i + j) (mo := mVar 0) (me := mVar 1) (sl := [some (.ref i), some (.int a)]) h rfl rfl
  have a3 := e_ownF (mo := mVar 0) (ma := mCons (mVar 1) mNil) (sl := [some (.ref i), some (.int a)]) (xs := l.map Ev.d) (y := (Ev.inn a).d) (set_get (o' := ⟨5, [some (.int (bal f l + a)), some (evs l)]⟩) h) rfl (by simp [mFn, mSq, mSkip, mPut, tName, mOwn, mDo, mRet, mIf, bindS, mC, mVar, mOp, mUn, bindX, pureX, ofO, mCons, mNil, mTup, mLst, mCal, mTst, mTru, mAndT, mOrT, mNotT, mAnd, mOr, mNot, truth, asBl, a_int, fSub, fMul, fMod, p4, p9, p12, p13, p18, fLt, fLe, fGt, fGe, q_str, q_int, n_str, n_int, n_bl, sne1, sne2, sne3, sne4, sne5, sne6, x_tup, x_lst, fNeg, fIs, isD, fIsi, isi, kInt, kLen, kMin2, kMax2, mCall, sz_eq, Ev.d]) (by rw [List.length_map]; omega)
  have e : lob f (l ++ [.inn a]) = ⟨5, [some (.int (bal f l + a)), some (.lst (l.map Ev.d ++ [(Ev.inn a).d]))]⟩ := by simp [lob, bal_app, step, evs]
  rw [e, ← set_set (o := ⟨5, [some (.int (bal f l + a)), some (evs l)]⟩)]
  refine e_fnn (sl' := [some (.ref i), some (.int a)]) (e_sq (e_iff (S' := S) ?_ e_skip) (e_sq a2 a3))
  simp [mOrT, mTst, mOp, bindX, mVar, mC, ofO, fLt, fGt, asBl, h1, h2, h3, q, a_int]
end K29
set_option Elab.async false
set_option linter.all false
set_option maxRecDepth 100000
set_option maxHeartbeats 4000000
namespace K29
open PySem Sm
theorem fldw {S : Sto} {i : Nat} {f : Int} {l : List Ev} (h : Led S i f l) (sl : List (Option D)) (h0 : sl[0]? = some (some (.ref i))) : mFld [(5, 1)] (mVar 0) sl S = .ok (evs l) S := by
  simp [mFld, mVar, bindX, h0, fld1 h]
theorem truth_evs (l : List Ev) : truth (evs l) = some (!l.isEmpty) := by
  show some (!(l.map Ev.d).isEmpty) = _
  cases l <;> rfl
theorem back_err {S : Sto} {i : Nat} {f : Int} (h : Led S i f []) : F_Ledger_take_back [.ref i] S = .err ⟨1, []⟩ S := by
  have q := fldw h [some (.ref i), none] rfl
  have c1 : mNotT (mTru (mFld [(5, 1)] (mVar 0))) [some (.ref i), none] S = .ok true S := by
    simp only [mNotT, mTru, bindX, q, truth_evs, ofO, pureX]; rfl
  exact e_fne (sl' := [some (.ref i), none]) (e_sqe (e_ift c1 (by simp [mRaise, bindS, mNil, pureX])))
theorem e_pop {mo : Mx D} {sl : List (Option D)} {S : Sto} {i j : Nat} {xs : List D} {y : D} {x : Option D} (hS : S[i]? = some ⟨5, [x, some (.lst xs)]⟩) (ho : mo sl S = .ok (.ref i) S) (hy : xs.getLast? = some y) (hj : j < sl.length) :
    mOwnF oPop 5 1 mo mNil (fun d sl S => match (tName j) d sl with | some sl' => .next sl' S | none => .stuck) sl S = .next (sl.set j (some y)) (S.set i ⟨5, [x, some (.lst xs.dropLast)]⟩) := by
  simp [mOwnF, bindS, ho, getF, hS, isLst, oPop, hy, mNil, pureX, tName, hj]
theorem back_ok {S : Sto} {i : Nat} {f : Int} {l : List Ev} {e : Ev} (h : Led S i f l) (he : l.getLast? = some e) : F_Ledger_take_back [.ref i] S = .ok e.d (S.set i (lob f l.dropLast)) := by
  have q := fldw h [some (.ref i), none] rfl
  have hne : l.isEmpty = false := by cases l with | nil => cases he | cons _ _ => rfl
  have hl : l.dropLast ++ [e] = l := by
    obtain ⟨ys, rfl⟩ := List.getLast?_eq_some_iff.mp he
    simp
  have hb : bal f l = step (bal f l.dropLast) e := by rw [← bal_app, hl]
  have hg : (l.map Ev.d).getLast? = some e.d := by rw [List.getLast?_map, he]; rfl
  have a2 := e_pop (mo := mVar 0) (sl := [some (.ref i), none]) (j := 1) (xs := l.map Ev.d) (y := e.d) h rfl hg (by simp)
  have hS : (S.set i ⟨5, [some (.int (bal f l)), some (.lst (l.map Ev.d).dropLast)]⟩)[i]? = some ⟨5, [some (.int (bal f l)), some (.lst (l.map Ev.d).dropLast)]⟩ := set_get h
  have e2 : lob f l.dropLast = ⟨5, [some (.int (bal f l.dropLast)), some (.lst (l.map Ev.d).dropLast)]⟩ := by simp [lob, evs, List.map_dropLast]
  rw [e2, ← set_set (o := ⟨5, [some (.int (bal f l)), some (.lst (l.map Ev.d).dropLast)]⟩)]
  have c1 : mNotT (mTru (mFld [(5, 1)] (mVar 0))) [some (.ref i), none] S = .ok false S := by
    simp only [mNotT, mTru, bindX, q, truth_evs, hne, ofO, pureX]; rfl
  refine e_fn (e_sq (e_iff c1 e_skip) (e_sq a2 (e_sq (sl' := [some (.ref i), some e.d]) ?_ (e_ret rfl))))
  cases e with
  | pay n b m p =>
    have a3 := e_augF (h := fun i j => i + j) (mo := mVar 0) (me := mOp fIx (mVar 1) (mC (.int 3))) (sl := [some (.ref i), some (Ev.pay n b m p).d]) hS rfl (j := p) (by simp [mFn, mSq, mSkip, mPut, tName, mOwn, mDo, mRet, mIf, bindS, mC, mVar, mOp, mUn, bindX, pureX, ofO, mCons, mNil, mTup, mLst, mCal, mTst, mTru, mAndT, mOrT, mNotT, mAnd, mOr, mNot, truth, asBl, a_int, fSub, fMul, fMod, p4, p9, p12, p13, p18, fLt, fLe, fGt, fGe, q_str, q_int, n_str, n_int, n_bl, sne1, sne2, sne3, sne4, sne5, sne6, x_tup, x_lst, fNeg, fIs, isD, fIsi, isi, kInt, kLen, kMin2, kMax2, mCall, sz_eq, Ev.d, L2.atI, L2.ixN])
    have hz : bal f l + p = bal f l.dropLast := by rw [hb]; simp [step]
    rw [hz] at a3
    exact e_ift (by simp [mFn, mSq, mSkip, mPut, tName, mOwn, mDo, mRet, mIf, bindS, mC, mVar, mOp, mUn, bindX, pureX, ofO, mCons, mNil, mTup, mLst, mCal, mTst, mTru, mAndT, mOrT, mNotT, mAnd, mOr, mNot, truth, asBl, a_int, fSub, fMul, fMod, p4, p9, p12, p13, p18, fLt, fLe, fGt, fGe, q_str, q_int, n_str, n_int, n_bl, sne1, sne2, sne3, sne4, sne5, sne6, x_tup, x_lst, fNeg, fIs, isD, fIsi, isi, kInt, kLen, kMin2, kMax2, mCall, sz_eq, Ev.d]) a3
  | inn a =>
    have a3 := e_augF (h := fun i j => i - j) (mo := mVar 0) (me := mVar 1) (sl := [some (.ref i), some (Ev.inn a).d]) hS rfl (j := a) rfl
    have hz : bal f l - a = bal f l.dropLast := by rw [hb]; simp [step]
    rw [hz] at a3
    exact e_iff (by simp [mFn, mSq, mSkip, mPut, tName, mOwn, mDo, mRet, mIf, bindS, mC, mVar, mOp, mUn, bindX, pureX, ofO, mCons, mNil, mTup, mLst, mCal, mTst, mTru, mAndT, mOrT, mNotT, mAnd, mOr, mNot, truth, asBl, a_int, fSub, fMul, fMod, p4, p9, p12, p13, p18, fLt, fLe, fGt, fGe, q_str, q_int, n_str, n_int, n_bl, sne1, sne2, sne3, sne4, sne5, sne6, x_tup, x_lst, fNeg, fIs, isD, fIsi, isi, kInt, kLen, kMin2, kMax2, mCall, sz_eq, Ev.d]) a3
/-! ### asking a ledger -/
section
variable {mb : Ms} {cs : List Cl} {m : Mx D} {sl sl' : List (Option D)} {S S' : Sto} {d : D} {x : Exc} {r : Rs}
theorem e_tryr (h : mb sl S = .ret d S') : mTry mb cs sl S = .ret d S' := by unfold mTry; rw [h]
theorem e_trye (h : mb sl S = .err x sl' S') (h2 : mHd cs x sl' S' = r) : mTry mb cs sl S = r := by unfold mTry; rw [h]; exact h2
theorem e_ok (h : m sl S = .ok d S') : mRet (mTup (mCons (mC (.str "ok")) (mCons m mNil))) sl S = .ret (.tup [.str "ok", d]) S' := by
  simp [mRet, bindS, mTup, mCons, mC, mNil, bindX, pureX, h, sz_eq]
theorem e_oke (h : m sl S = .err x S') : mRet (mTup (mCons (mC (.str "ok")) (mCons m mNil))) sl S = .err x sl S' := by
  simp [mRet, bindS, mTup, mCons, mC, mNil, bindX, pureX, h]
end
def hs : List Cl := [⟨[(0, false), (1, false), (2, false), (3, true), (4, false)], some 3, fun x => (mRet (mTup (mCons (mC (.str "NoCoins")) (mCons (mXf 3 [(3, 0)] x) (mCons (mXf 3 [(3, 1)] x) mNil)))))⟩, ⟨[(0, false), (1, false), (2, true), (3, false), (4, false)], some 3, fun x => (mRet (mTup (mCons (mC (.str "BadCoins")) (mCons (mXf 3 [(2, 0)] x) mNil))))⟩, ⟨[(0, false), (1, true), (2, false), (3, false), (4, false)], none, fun x => (mRet (mTup (mCons (mC (.str "NothingToUndo")) (mCons (mC .non) mNil))))⟩]
theorem hs3 (a b c : Option D) (p q : Int) (S : Sto) : mHd hs ⟨3, [.int p, .int q]⟩ [a, b, c, none] S = .ret (Due.noCoins p q).d S := by simp [mFn, mSq, mSkip, mPut, tName, mOwn, mDo, mRet, mIf, bindS, mC, mVar, mOp, mUn, bindX, pureX, ofO, mCons, mNil, mTup, mLst, mCal, mTst, mTru, mAndT, mOrT, mNotT, mAnd, mOr, mNot, truth, asBl, a_int, fSub, fMul, fMod, p4, p9, p12, p13, p18, fLt, fLe, fGt, fGe, q_str, q_int, n_str, n_int, n_bl, sne1, sne2, sne3, sne4, sne5, sne6, x_tup, x_lst, fNeg, fIs, isD, fIsi, isi, kInt, kLen, kMin2, kMax2, mCall, sz_eq, hs, mHd, List.lookup, suEnd, unset, mXf, Due.d]
theorem hs2 (a b c : Option D) (p : Int) (S : Sto) : mHd hs ⟨2, [.int p]⟩ [a, b, c, none] S = .ret (Due.badCoins p).d S := by simp [mFn, mSq, mSkip, mPut, tName, mOwn, mDo, mRet, mIf, bindS, mC, mVar, mOp, mUn, bindX, pureX, ofO, mCons, mNil, mTup, mLst, mCal, mTst, mTru, mAndT, mOrT, mNotT, mAnd, mOr, mNot, truth, asBl, a_int, fSub, fMul, fMod, p4, p9, p12, p13, p18, fLt, fLe, fGt, fGe, q_str, q_int, n_str, n_int, n_bl, sne1, sne2, sne3, sne4, sne5, sne6, x_tup, x_lst, fNeg, fIs, isD, fIsi, isi, kInt, kLen, kMin2, kMax2, mCall, sz_eq, hs, mHd, List.lookup, suEnd, unset, mXf, Due.d]
theorem hs1 (a b c : Option D) (S : Sto) : mHd hs ⟨1, []⟩ [a, b, c, none] S = .ret Due.nothing.d S := by simp [mFn, mSq, mSkip, mPut, tName, mOwn, mDo, mRet, mIf, bindS, mC, mVar, mOp, mUn, bindX, pureX, ofO, mCons, mNil, mTup, mLst, mCal, mTst, mTru, mAndT, mOrT, mNotT, mAnd, mOr, mNot, truth, asBl, a_int, fSub, fMul, fMod, p4, p9, p12, p13, p18, fLt, fLe, fGt, fGe, q_str, q_int, n_str, n_int, n_bl, sne1, sne2, sne3, sne4, sne5, sne6, x_tup, x_lst, fNeg, fIs, isD, fIsi, isi, kInt, kLen, kMin2, kMax2, mCall, sz_eq, hs, mHd, List.lookup, suEnd, unset, mXf, Due.d]
theorem ask_at {S : Sto} {i : Nat} {f : Int} {l : List Ev} (h : Led S i f l) (hl : l.length < 100) (de : De) (named : Bool) :
    F__law_ask [.ref i, de.d, .bl named] S = .ok (due f l de).d (S.set i (lob f (behind l (due f l de) de))) := by
  have hsame : S.set i (lob f l) = S := set_same h
  cases de with
  | pay n b m p =>
    have args : ∀ o3 : Option D, mCons (mOp fIx (mVar 1) (mC (.int 1))) (mCons (mOp fIx (mVar 1) (mC (.int 2))) (mCons (mOp fIx (mVar 1) (mC (.int 3))) (mCons (mOp fIx (mVar 1) (mC (.int 4))) mNil))) [some (.ref i), some (De.pay n b m p).d, some (.bl named), o3] S = .ok [.str n, .int b, .str m, .int p] S := fun o3 => by simp [mFn, mSq, mSkip, mPut, tName, mOwn, mDo, mRet, mIf, bindS, mC, mVar, mOp, mUn, bindX, pureX, ofO, mCons, mNil, mTup, mLst, mCal, mTst, mTru, mAndT, mOrT, mNotT, mAnd, mOr, mNot, truth, asBl, a_int, fSub, fMul, fMod, p4, p9, p12, p13, p18, fLt, fLe, fGt, fGe, q_str, q_int, n_str, n_int, n_bl, sne1, sne2, sne3, sne4, sne5, sne6, x_tup, x_lst, fNeg, fIs, isD, fIsi, isi, kInt, kLen, kMin2, kMax2, mCall, sz_eq, De.d, L2.atI, L2.ixN]
    have argsK : ∀ o3 : Option D, mPerm 4 [3, 2, 1, 0] (mCons (mOp fIx (mVar 1) (mC (.int 4))) (mCons (mOp fIx (mVar 1) (mC (.int 3))) (mCons (mOp fIx (mVar 1) (mC (.int 2))) (mCons (mOp fIx (mVar 1) (mC (.int 1))) mNil)))) [some (.ref i), some (De.pay n b m p).d, some (.bl named), o3] S = .ok [.str n, .int b, .str m, .int p] S := fun o3 => by simp [mFn, mSq, mSkip, mPut, tName, mOwn, mDo, mRet, mIf, bindS, mC, mVar, mOp, mUn, bindX, pureX, ofO, mCons, mNil, mTup, mLst, mCal, mTst, mTru, mAndT, mOrT, mNotT, mAnd, mOr, mNot, truth, asBl, a_int, fSub, fMul, fMod, p4, p9, p12, p13, p18, fLt, fLe, fGt, fGe, q_str, q_int, n_str, n_int, n_bl, sne1, sne2, sne3, sne4, sne5, sne6, x_tup, x_lst, fNeg, fIs, isD, fIsi, isi, kInt, kLen, kMin2, kMax2, mCall, sz_eq, De.d, L2.atI, L2.ixN, mPerm, permD]
    by_cases hp : bal f l < p
    · have e : due f l (.pay n b m p) = .noCoins p (bal f l) := by simp [due, hp]
      rw [e]
      show _ = Rx.ok _ (S.set i (lob f l))
      rw [hsame]
      cases named with
      | true => exact e_fn (e_trye (e_sqe (e_ift (S' := S) (by simp [mFn, mSq, mSkip, mPut, tName, mOwn, mDo, mRet, mIf, bindS, mC, mVar, mOp, mUn, bindX, pureX, ofO, mCons, mNil, mTup, mLst, mCal, mTst, mTru, mAndT, mOrT, mNotT, mAnd, mOr, mNot, truth, asBl, a_int, fSub, fMul, fMod, p4, p9, p12, p13, p18, fLt, fLe, fGt, fGe, q_str, q_int, n_str, n_int, n_bl, sne1, sne2, sne3, sne4, sne5, sne6, x_tup, x_lst, fNeg, fIs, isD, fIsi, isi, kInt, kLen, kMin2, kMax2, mCall, sz_eq, De.d, L2.atI, L2.ixN]) (e_oke ((e_meth (F := F_Ledger_pay) rfl (led_cls h) rfl (argsK _)).trans (pay_err h n b m p hp))))) (hs3 _ _ _ _ _ _))
      | false => exact e_fn (e_trye (e_sq (e_iff (S' := S) (by simp [mFn, mSq, mSkip, mPut, tName, mOwn, mDo, mRet, mIf, bindS, mC, mVar, mOp, mUn, bindX, pureX, ofO, mCons, mNil, mTup, mLst, mCal, mTst, mTru, mAndT, mOrT, mNotT, mAnd, mOr, mNot, truth, asBl, a_int, fSub, fMul, fMod, p4, p9, p12, p13, p18, fLt, fLe, fGt, fGe, q_str, q_int, n_str, n_int, n_bl, sne1, sne2, sne3, sne4, sne5, sne6, x_tup, x_lst, fNeg, fIs, isD, fIsi, isi, kInt, kLen, kMin2, kMax2, mCall, sz_eq, De.d, L2.atI, L2.ixN]) e_skip) (e_sqe (e_ift (S' := S) (by simp [mFn, mSq, mSkip, mPut, tName, mOwn, mDo, mRet, mIf, bindS, mC, mVar, mOp, mUn, bindX, pureX, ofO, mCons, mNil, mTup, mLst, mCal, mTst, mTru, mAndT, mOrT, mNotT, mAnd, mOr, mNot, truth, asBl, a_int, fSub, fMul, fMod, p4, p9, p12, p13, p18, fLt, fLe, fGt, fGe, q_str, q_int, n_str, n_int, n_bl, sne1, sne2, sne3, sne4, sne5, sne6, x_tup, x_lst, fNeg, fIs, isD, fIsi, isi, kInt, kLen, kMin2, kMax2, mCall, sz_eq, De.d, L2.atI, L2.ixN]) (e_oke ((e_meth (F := F_Ledger_pay) rfl (led_cls h) rfl (args _)).trans (pay_err h n b m p hp)))))) (hs3 _ _ _ _ _ _))
    · have e : due f l (.pay n b m p) = .ok0 := by simp [due, hp]
      rw [e]
      cases named with
      | true => exact e_fn (e_tryr (e_sqr (e_ift (S' := S) (by simp [mFn, mSq, mSkip, mPut, tName, mOwn, mDo, mRet, mIf, bindS, mC, mVar, mOp, mUn, bindX, pureX, ofO, mCons, mNil, mTup, mLst, mCal, mTst, mTru, mAndT, mOrT, mNotT, mAnd, mOr, mNot, truth, asBl, a_int, fSub, fMul, fMod, p4, p9, p12, p13, p18, fLt, fLe, fGt, fGe, q_str, q_int, n_str, n_int, n_bl, sne1, sne2, sne3, sne4, sne5, sne6, x_tup, x_lst, fNeg, fIs, isD, fIsi, isi, kInt, kLen, kMin2, kMax2, mCall, sz_eq, De.d, L2.atI, L2.ixN]) (e_ok ((e_meth (F := F_Ledger_pay) rfl (led_cls h) rfl (argsK _)).trans (pay_ok h hl n b m p hp))))))
      | false => exact e_fn (e_tryr (e_sq (e_iff (S' := S) (by simp [mFn, mSq, mSkip, mPut, tName, mOwn, mDo, mRet, mIf, bindS, mC, mVar, mOp, mUn, bindX, pureX, ofO, mCons, mNil, mTup, mLst, mCal, mTst, mTru, mAndT, mOrT, mNotT, mAnd, mOr, mNot, truth, asBl, a_int, fSub, fMul, fMod, p4, p9, p12, p13, p18, fLt, fLe, fGt, fGe, q_str, q_int, n_str, n_int, n_bl, sne1, sne2, sne3, sne4, sne5, sne6, x_tup, x_lst, fNeg, fIs, isD, fIsi, isi, kInt, kLen, kMin2, kMax2, mCall, sz_eq, De.d, L2.atI, L2.ixN]) e_skip) (e_sqr (e_ift (S' := S) (by simp [mFn, mSq, mSkip, mPut, tName, mOwn, mDo, mRet, mIf, bindS, mC, mVar, mOp, mUn, bindX, pureX, ofO, mCons, mNil, mTup, mLst, mCal, mTst, mTru, mAndT, mOrT, mNotT, mAnd, mOr, mNot, truth, asBl, a_int, fSub, fMul, fMod, p4, p9, p12, p13, p18, fLt, fLe, fGt, fGe, q_str, q_int, n_str, n_int, n_bl, sne1, sne2, sne3, sne4, sne5, sne6, x_tup, x_lst, fNeg, fIs, isD, fIsi, isi, kInt, kLen, kMin2, kMax2, mCall, sz_eq, De.d, L2.atI, L2.ixN]) (e_ok ((e_meth (F := F_Ledger_pay) rfl (led_cls h) rfl (args _)).trans (pay_ok h hl n b m p hp)))))))
  | inn a =>
    have args : mCons (mOp fIx (mVar 1) (mC (.int 1))) mNil [some (.ref i), some (De.inn a).d, some (.bl named), none] S = .ok [.int a] S := by simp [mFn, mSq, mSkip, mPut, tName, mOwn, mDo, mRet, mIf, bindS, mC, mVar, mOp, mUn, bindX, pureX, ofO, mCons, mNil, mTup, mLst, mCal, mTst, mTru, mAndT, mOrT, mNotT, mAnd, mOr, mNot, truth, asBl, a_int, fSub, fMul, fMod, p4, p9, p12, p13, p18, fLt, fLe, fGt, fGe, q_str, q_int, n_str, n_int, n_bl, sne1, sne2, sne3, sne4, sne5, sne6, x_tup, x_lst, fNeg, fIs, isD, fIsi, isi, kInt, kLen, kMin2, kMax2, mCall, sz_eq, De.d, L2.atI, L2.ixN]
    by_cases hp : a < 1 ∨ 1000000000 < a ∨ 1000000000000 < bal f l + a
    · have e : due f l (.inn a) = .badCoins a := by simp only [due]; rw [if_pos hp]
      rw [e]
      show _ = Rx.ok _ (S.set i (lob f l))
      rw [hsame]
      exact e_fn (e_trye (e_sq (e_iff (S' := S) (by simp [mFn, mSq, mSkip, mPut, tName, mOwn, mDo, mRet, mIf, bindS, mC, mVar, mOp, mUn, bindX, pureX, ofO, mCons, mNil, mTup, mLst, mCal, mTst, mTru, mAndT, mOrT, mNotT, mAnd, mOr, mNot, truth, asBl, a_int, fSub, fMul, fMod, p4, p9, p12, p13, p18, fLt, fLe, fGt, fGe, q_str, q_int, n_str, n_int, n_bl, sne1, sne2, sne3, sne4, sne5, sne6, x_tup, x_lst, fNeg, fIs, isD, fIsi, isi, kInt, kLen, kMin2, kMax2, mCall, sz_eq, De.d, L2.atI, L2.ixN]) e_skip) (e_sq (e_iff (S' := S) (by simp [mFn, mSq, mSkip, mPut, tName, mOwn, mDo, mRet, mIf, bindS, mC, mVar, mOp, mUn, bindX, pureX, ofO, mCons, mNil, mTup, mLst, mCal, mTst, mTru, mAndT, mOrT, mNotT, mAnd, mOr, mNot, truth, asBl, a_int, fSub, fMul, fMod, p4, p9, p12, p13, p18, fLt, fLe, fGt, fGe, q_str, q_int, n_str, n_int, n_bl, sne1, sne2, sne3, sne4, sne5, sne6, x_tup, x_lst, fNeg, fIs, isD, fIsi, isi, kInt, kLen, kMin2, kMax2, mCall, sz_eq, De.d, L2.atI, L2.ixN]) e_skip) (e_sqe (e_ift (S' := S) (by simp [mFn, mSq, mSkip, mPut, tName, mOwn, mDo, mRet, mIf, bindS, mC, mVar, mOp, mUn, bindX, pureX, ofO, mCons, mNil, mTup, mLst, mCal, mTst, mTru, mAndT, mOrT, mNotT, mAnd, mOr, mNot, truth, asBl, a_int, fSub, fMul, fMod, p4, p9, p12, p13, p18, fLt, fLe, fGt, fGe, q_str, q_int, n_str, n_int, n_bl, sne1, sne2, sne3, sne4, sne5, sne6, x_tup, x_lst, fNeg, fIs, isD, fIsi, isi, kInt, kLen, kMin2, kMax2, mCall, sz_eq, De.d, L2.atI, L2.ixN]) (e_oke ((e_meth (F := F_Ledger_pay_in) rfl (led_cls h) rfl args).trans (inn_err h a hp))))))) (hs2 _ _ _ _ _))
    · have e : due f l (.inn a) = .ok0 := by simp only [due]; rw [if_neg hp]
      rw [e]
      exact e_fn (e_tryr (e_sq (e_iff (S' := S) (by simp [mFn, mSq, mSkip, mPut, tName, mOwn, mDo, mRet, mIf, bindS, mC, mVar, mOp, mUn, bindX, pureX, ofO, mCons, mNil, mTup, mLst, mCal, mTst, mTru, mAndT, mOrT, mNotT, mAnd, mOr, mNot, truth, asBl, a_int, fSub, fMul, fMod, p4, p9, p12, p13, p18, fLt, fLe, fGt, fGe, q_str, q_int, n_str, n_int, n_bl, sne1, sne2, sne3, sne4, sne5, sne6, x_tup, x_lst, fNeg, fIs, isD, fIsi, isi, kInt, kLen, kMin2, kMax2, mCall, sz_eq, De.d, L2.atI, L2.ixN]) e_skip) (e_sq (e_iff (S' := S) (by simp [mFn, mSq, mSkip, mPut, tName, mOwn, mDo, mRet, mIf, bindS, mC, mVar, mOp, mUn, bindX, pureX, ofO, mCons, mNil, mTup, mLst, mCal, mTst, mTru, mAndT, mOrT, mNotT, mAnd, mOr, mNot, truth, asBl, a_int, fSub, fMul, fMod, p4, p9, p12, p13, p18, fLt, fLe, fGt, fGe, q_str, q_int, n_str, n_int, n_bl, sne1, sne2, sne3, sne4, sne5, sne6, x_tup, x_lst, fNeg, fIs, isD, fIsi, isi, kInt, kLen, kMin2, kMax2, mCall, sz_eq, De.d, L2.atI, L2.ixN]) e_skip) (e_sqr (e_ift (S' := S) (by simp [mFn, mSq, mSkip, mPut, tName, mOwn, mDo, mRet, mIf, bindS, mC, mVar, mOp, mUn, bindX, pureX, ofO, mCons, mNil, mTup, mLst, mCal, mTst, mTru, mAndT, mOrT, mNotT, mAnd, mOr, mNot, truth, asBl, a_int, fSub, fMul, fMod, p4, p9, p12, p13, p18, fLt, fLe, fGt, fGe, q_str, q_int, n_str, n_int, n_bl, sne1, sne2, sne3, sne4, sne5, sne6, x_tup, x_lst, fNeg, fIs, isD, fIsi, isi, kInt, kLen, kMin2, kMax2, mCall, sz_eq, De.d, L2.atI, L2.ixN]) (e_ok ((e_meth (F := F_Ledger_pay_in) rfl (led_cls h) rfl args).trans (inn_ok h hl a hp))))))))
  | back =>
    cases hg : l.getLast? with
    | none =>
      have e : due f l .back = .nothing := by simp [due, hg]
      rw [e]
      show _ = Rx.ok _ (S.set i (lob f l))
      rw [hsame]
      have hn : l = [] := List.getLast?_eq_none_iff.mp hg
      subst hn
      exact e_fn (e_trye (e_sq (e_iff (S' := S) (by simp [mFn, mSq, mSkip, mPut, tName, mOwn, mDo, mRet, mIf, bindS, mC, mVar, mOp, mUn, bindX, pureX, ofO, mCons, mNil, mTup, mLst, mCal, mTst, mTru, mAndT, mOrT, mNotT, mAnd, mOr, mNot, truth, asBl, a_int, fSub, fMul, fMod, p4, p9, p12, p13, p18, fLt, fLe, fGt, fGe, q_str, q_int, n_str, n_int, n_bl, sne1, sne2, sne3, sne4, sne5, sne6, x_tup, x_lst, fNeg, fIs, isD, fIsi, isi, kInt, kLen, kMin2, kMax2, mCall, sz_eq, De.d, L2.atI, L2.ixN]) e_skip) (e_sq (e_iff (S' := S) (by simp [mFn, mSq, mSkip, mPut, tName, mOwn, mDo, mRet, mIf, bindS, mC, mVar, mOp, mUn, bindX, pureX, ofO, mCons, mNil, mTup, mLst, mCal, mTst, mTru, mAndT, mOrT, mNotT, mAnd, mOr, mNot, truth, asBl, a_int, fSub, fMul, fMod, p4, p9, p12, p13, p18, fLt, fLe, fGt, fGe, q_str, q_int, n_str, n_int, n_bl, sne1, sne2, sne3, sne4, sne5, sne6, x_tup, x_lst, fNeg, fIs, isD, fIsi, isi, kInt, kLen, kMin2, kMax2, mCall, sz_eq, De.d, L2.atI, L2.ixN]) e_skip) (e_sq (e_iff (S' := S) (by simp [mFn, mSq, mSkip, mPut, tName, mOwn, mDo, mRet, mIf, bindS, mC, mVar, mOp, mUn, bindX, pureX, ofO, mCons, mNil, mTup, mLst, mCal, mTst, mTru, mAndT, mOrT, mNotT, mAnd, mOr, mNot, truth, asBl, a_int, fSub, fMul, fMod, p4, p9, p12, p13, p18, fLt, fLe, fGt, fGe, q_str, q_int, n_str, n_int, n_bl, sne1, sne2, sne3, sne4, sne5, sne6, x_tup, x_lst, fNeg, fIs, isD, fIsi, isi, kInt, kLen, kMin2, kMax2, mCall, sz_eq, De.d, L2.atI, L2.ixN]) e_skip) (e_oke ((e_meth (F := F_Ledger_take_back) (ds := []) (S1 := S) rfl (led_cls h) rfl rfl).trans (back_err h)))))) (hs1 _ _ _ _))
    | some x =>
      have e : due f l .back = .okv x := by simp [due, hg]
      rw [e]
      exact e_fn (e_tryr (e_sq (e_iff (S' := S) (by simp [mFn, mSq, mSkip, mPut, tName, mOwn, mDo, mRet, mIf, bindS, mC, mVar, mOp, mUn, bindX, pureX, ofO, mCons, mNil, mTup, mLst, mCal, mTst, mTru, mAndT, mOrT, mNotT, mAnd, mOr, mNot, truth, asBl, a_int, fSub, fMul, fMod, p4, p9, p12, p13, p18, fLt, fLe, fGt, fGe, q_str, q_int, n_str, n_int, n_bl, sne1, sne2, sne3, sne4, sne5, sne6, x_tup, x_lst, fNeg, fIs, isD, fIsi, isi, kInt, kLen, kMin2, kMax2, mCall, sz_eq, De.d, L2.atI, L2.ixN]) e_skip) (e_sq (e_iff (S' := S) (by simp [mFn, mSq, mSkip, mPut, tName, mOwn, mDo, mRet, mIf, bindS, mC, mVar, mOp, mUn, bindX, pureX, ofO, mCons, mNil, mTup, mLst, mCal, mTst, mTru, mAndT, mOrT, mNotT, mAnd, mOr, mNot, truth, asBl, a_int, fSub, fMul, fMod, p4, p9, p12, p13, p18, fLt, fLe, fGt, fGe, q_str, q_int, n_str, n_int, n_bl, sne1, sne2, sne3, sne4, sne5, sne6, x_tup, x_lst, fNeg, fIs, isD, fIsi, isi, kInt, kLen, kMin2, kMax2, mCall, sz_eq, De.d, L2.atI, L2.ixN]) e_skip) (e_sq (e_iff (S' := S) (by simp [mFn, mSq, mSkip, mPut, tName, mOwn, mDo, mRet, mIf, bindS, mC, mVar, mOp, mUn, bindX, pureX, ofO, mCons, mNil, mTup, mLst, mCal, mTst, mTru, mAndT, mOrT, mNotT, mAnd, mOr, mNot, truth, asBl, a_int, fSub, fMul, fMod, p4, p9, p12, p13, p18, fLt, fLe, fGt, fGe, q_str, q_int, n_str, n_int, n_bl, sne1, sne2, sne3, sne4, sne5, sne6, x_tup, x_lst, fNeg, fIs, isD, fIsi, isi, kInt, kLen, kMin2, kMax2, mCall, sz_eq, De.d, L2.atI, L2.ixN]) e_skip) (e_ok ((e_meth (F := F_Ledger_take_back) (ds := []) (S1 := S) rfl (led_cls h) rfl rfl).trans (back_ok h hg)))))))
end K29
set_option Elab.async false
set_option linter.all false
set_option maxRecDepth 100000
set_option maxHeartbeats 4000000
namespace K29
open PySem Sm
theorem e_callS {F : Fn} {ma mb : Mx D} {a b r : D} {sl : List (Option D)} {S S1 S2 : Sto} (ha : ma sl S = .ok a S1) (hb : mb sl S1 = .ok b S1) (h : F [a, b] S1 = .ok r S2) : mCall F (mCons ma (mCons mb mNil)) sl S = .ok r S2 := by
  simp only [mCall, mCons, mNil, bindX, pureX, ha, hb, h]
theorem e_call3 {F : Fn} {ma mb mc : Mx D} {a b c r : D} {sl : List (Option D)} {S S2 : Sto} (ha : ma sl S = .ok a S) (hb : mb sl S = .ok b S) (hc : mc sl S = .ok c S) (h : F [a, b, c] S = .ok r S2) : mCall F (mCons ma (mCons mb (mCons mc mNil))) sl S = .ok r S2 := by
  simp only [mCall, mCons, mNil, bindX, pureX, ha, hb, hc, h]
theorem e_call4 {F : Fn} {ma mb mc md : Mx D} {a b c d r : D} {sl : List (Option D)} {S S2 : Sto} (ha : ma sl S = .ok a S) (hb : mb sl S = .ok b S) (hc : mc sl S = .ok c S) (hd : md sl S = .ok d S) (h : F [a, b, c, d] S = .ok r S2) : mCall F (mCons ma (mCons mb (mCons mc (mCons md mNil)))) sl S = .ok r S2 := by
  simp only [mCall, mCons, mNil, bindX, pureX, ha, hb, hc, hd, h]
theorem ev_okd (e : Ev) (n : Nat) : okd (n + 2) e.d := by
  cases e with
  | pay a b c d =>
    refine ⟨by simp, fun x hx => ?_⟩
    simp at hx
    rcases hx with rfl | rfl | rfl | rfl <;> trivial
  | inn a => trivial
theorem due_okd (u : Due) : okd 6 u.d := by
  cases u <;> refine ⟨by simp, fun x hx => ?_⟩ <;> simp at hx
  · rcases hx with rfl | rfl <;> trivial
  · rcases hx with rfl | rfl
    · trivial
    · exact ev_okd _ 3
  · rcases hx with rfl | rfl | rfl <;> trivial
  · rcases hx with rfl | rfl <;> trivial
  · rcases hx with rfl | rfl <;> trivial
theorem led_set {S : Sto} {i : Nat} {f : Int} {l l2 : List Ev} (h : Led S i f l) : Led (S.set i (lob f l2)) i f l2 := set_get h
theorem behind_back (f : Int) (l : List Ev) : behind l (due f l .back) .back = l.dropLast := by
  cases hg : l.getLast? with
  | none =>
    have hn : l = [] := List.getLast?_eq_none_iff.mp hg
    subst hn; rfl
  | some x => simp [behind, due, hg]
def W3 (a b c : Str) : D := .lst [.str a, .str b, .str c]
def bk : Mx D := mTup (mCons (mC (.str "take_back")) (mCons (mC (.int 0)) mNil))
theorem bk_at (sl : List (Option D)) (S : Sto) : bk sl S = .ok De.back.d S := by simp [mFn, mSq, mSkip, mPut, tName, mOwn, mDo, mRet, mIf, bindS, mC, mVar, mOp, mUn, bindX, pureX, ofO, mCons, mNil, mTup, mLst, mCal, mTst, mTru, mAndT, mOrT, mNotT, mAnd, mOr, mNot, truth, asBl, a_int, fSub, fMul, fMod, p4, p9, p12, p13, p18, fLt, fLe, fGt, fGe, q_str, q_int, n_str, n_int, n_bl, sne1, sne2, sne3, sne4, sne5, sne6, x_tup, x_lst, fNeg, fIs, isD, fIsi, isi, kInt, kLen, kMin2, kMax2, mCall, sz_eq, bk, De.d]
theorem back_turn {S : Sto} {i : Nat} {f : Int} {l : List Ev} (h : Led S i f l) (hl : l.length < 100) (hk : ∀ e ∈ l, e.okS) (a b c : Str) (k : Int) (o5 : Option D) :
    L0_law_taken_back [some (.ref i), some (.int f), some (evs l), some (W3 a b c), some (.int k), o5] S =
      .next [some (.ref i), some (.int f), some (evs l.dropLast), some (W3 a b c), some (.int k), some (due f l .back).d] (S.set i (lob f l.dropLast)) := by
  have hb := behind_back f l
  have s1 : mPut (tName 5) (mCall F__law_due (mCons bk (mCons (mVar 1) (mCons (mVar 2) mNil)))) [some (.ref i), some (.int f), some (evs l), some (W3 a b c), some (.int k), o5] S = .next [some (.ref i), some (.int f), some (evs l), some (W3 a b c), some (.int k), some (due f l .back).d] S :=
    e_put (e_call3 (bk_at _ _) rfl rfl (due_at f l .back hk S))
  have ha := ask_at h hl .back false
  rw [hb] at ha
  have s2 : mCall F__law_ask (mCons (mVar 0) (mCons bk (mCons (mC (.bl false)) mNil))) [some (.ref i), some (.int f), some (evs l), some (W3 a b c), some (.int k), some (due f l .back).d] S = .ok (due f l .back).d (S.set i (lob f l.dropLast)) := e_call3 rfl (bk_at _ _) rfl ha
  have hbe := behind_at l f .back hl (S.set i (lob f l.dropLast))
  rw [hb] at hbe
  have s3 : mPut (tName 2) (mCall F__law_behind (mCons bk (mCons (mVar 5) (mCons (mVar 2) mNil)))) [some (.ref i), some (.int f), some (evs l), some (W3 a b c), some (.int k), some (due f l .back).d] (S.set i (lob f l.dropLast)) = .next [some (.ref i), some (.int f), some (evs l.dropLast), some (W3 a b c), some (.int k), some (due f l .back).d] (S.set i (lob f l.dropLast)) :=
    e_put (e_call3 (bk_at _ _) rfl rfl hbe)
  have ht := tells_at (led_set (l2 := l.dropLast) h) (by simp; omega) a b c
  exact e_sq s1 (e_sq (e_iff (e_nott (e_callS s2 rfl (same_at 6 _ _ (due_okd _)))) e_skip) (e_sq s3 (e_iff (e_nott (e_call4 rfl rfl rfl rfl ht)) e_skip)))
theorem back_all {S : Sto} {i : Nat} {f : Int} {l : List Ev} (h : Led S i f l) (hl : l.length < 15) (hk : ∀ e ∈ l, e.okS) (a b c : Str) :
    ∃ S', F__law_taken_back [.ref i, .int f, evs l, W3 a b c] S = .ok (.bl true) S' ∧ ∀ j, j ≠ i → S'[j]? = S[j]? := by
  obtain ⟨sl', S', h1, l', o4, o5, rfl, hL, hn, hk', ho⟩ := loop_ind (t := tName 4) (mb := L0_law_taken_back)
    (P := fun k sl T => ∃ l' o4 o5, sl = [some (.ref i), some (.int f), some (evs l'), some (W3 a b c), o4, o5] ∧ Led T i f l' ∧ (l'.length = l.length - k) ∧ (∀ e ∈ l', e.okS) ∧ ∀ j, j ≠ i → T[j]? = S[j]?)
    (rng 0 15) 0 [some (.ref i), some (.int f), some (evs l), some (W3 a b c), none, none] S ⟨l, none, none, rfl, h, rfl, hk, fun _ _ => rfl⟩ (fun k d sl T hi hp => by
      rw [Nat.zero_add] at hp ⊢
      obtain ⟨l', o4, o5, rfl, hL, hn, hk', ho⟩ := hp
      obtain ⟨hin, rfl⟩ := rng_at hi
      refine ⟨[some (.ref i), some (.int f), some (evs l'), some (W3 a b c), some (.int k), o5], _, _, rfl, back_turn hL (by omega) hk' a b c k o5, l'.dropLast, _, _, rfl, led_set hL, ?_, fun e he => hk' e (List.dropLast_subset _ he), fun j hj => ?_⟩
      · rw [List.length_dropLast]; omega
      · rw [List.getElem?_set_ne (fun z => hj z.symm)]; exact ho j hj)
  have hz : l' = [] := by
    rw [rng_len] at hn
    exact List.eq_nil_of_length_eq_zero (by omega)
  subst hz
  have s1 : mFor (mRng kRng1 (mCons (mC (.int 15)) mNil)) (tName 4) L0_law_taken_back [some (.ref i), some (.int f), some (evs l), some (W3 a b c), none, none] S = _ := e_for (e_rng (n := 15) (S' := S) rfl (by decide) (by decide)) h1
  refine ⟨S', e_fn (e_sq s1 (e_ret ?_)), ho⟩
  have q : fEq (evs []) (.lst []) = some (.bl true) := nil_eq [] (by simp)
  show mOp fEq (mVar 2) (mLst mNil) [some (.ref i), some (.int f), some (evs []), some (W3 a b c), o4, o5] S' = _
  have z1 : mVar 2 [some (.ref i), some (.int f), some (evs []), some (W3 a b c), o4, o5] S' = .ok (evs []) S' := rfl
  simp only [mOp, bindX, z1, e_lst0, q, ofO]
/-! ### ledgers made -/
theorem init_ok {S : Sto} {i : Nat} (hS : S[i]? = some ⟨5, [none, none]⟩) (c : Int) (h0 : 0 ≤ c) (h1 : c ≤ 1000000000000) : F_Ledger_init [.ref i, .int c] S = .ok .non (S.set i (lob c [])) := by
  have z1 : ¬ c < 0 := by omega
  have z2 : ¬ 1000000000000 < c := by omega
  have e : lob c [] = ⟨5, [some (.int c), some (.lst [])]⟩ := rfl
  rw [e, ← set_set (o := ⟨5, [some (.int c), none]⟩)]
  have a2 : mSetF 5 0 (mVar 0) (mVar 1) [some (.ref i), some (.int c)] S = .next [some (.ref i), some (.int c)] (S.set i ⟨5, [some (.int c), none]⟩) := by simp [mSetF, bindS, mVar, wrF, hS]
  have a3 : mSetF 5 1 (mVar 0) (mLst mNil) [some (.ref i), some (.int c)] (S.set i ⟨5, [some (.int c), none]⟩) = .next [some (.ref i), some (.int c)] ((S.set i ⟨5, [some (.int c), none]⟩).set i ⟨5, [some (.int c), some (.lst [])]⟩) := by
    simp [mSetF, bindS, mVar, wrF, e_lst0, set_get hS]
  exact e_fnn (e_sq (e_iff (S' := S) (by simp [mOrT, mTst, mOp, bindX, mVar, mC, ofO, fLt, fGt, asBl, z1, z2]) e_skip) (e_sq a2 a3))
theorem init_err {S : Sto} {i : Nat} (c : Int) (h : c < 0 ∨ 1000000000000 < c) : F_Ledger_init [.ref i, .int c] S = .err ⟨2, [.int c]⟩ S := by
  refine e_fne (sl' := [some (.ref i), some (.int c)]) (e_sqe (e_ift (S' := S) ?_ (by simp [mRaise, bindS, mCons, mNil, bindX, pureX, mVar])))
  by_cases h1 : c < 0
  · simp [mOrT, mTst, mOp, bindX, mVar, mC, ofO, fLt, asBl, h1, pureX]
  · simp [mOrT, mTst, mOp, bindX, mVar, mC, ofO, fLt, fGt, asBl, h1, h.resolve_left h1]
theorem mk_ok {ma : Mx (List D)} {sl : List (Option D)} {S : Sto} {c : Int} (ha : ma sl S = .ok [.int c] S) (h0 : 0 ≤ c) (h1 : c ≤ 1000000000000) : mMk 5 2 F_Ledger_init ma sl S = .ok (.ref S.length) (S ++ [lob c []]) := by
  have q := init_ok (S := S ++ [(⟨5, [none, none]⟩ : Ob)]) (i := S.length) (by simp) c h0 h1
  have e : (S ++ [(⟨5, [none, none]⟩ : Ob)]).set S.length (lob c []) = S ++ [lob c []] := by simp
  rw [e] at q
  simp only [mMk, bindX, ha, mkObj, List.replicate, q]
theorem mk_err {ma : Mx (List D)} {sl : List (Option D)} {S : Sto} {c : Int} (ha : ma sl S = .ok [.int c] S) (h : c < 0 ∨ 1000000000000 < c) : mMk 5 2 F_Ledger_init ma sl S = .err ⟨2, [.int c]⟩ (S ++ [(⟨5, [none, none]⟩ : Ob)]) := by
  have q := init_err (S := S ++ [(⟨5, [none, none]⟩ : Ob)]) (i := S.length) c h
  simp only [mMk, bindX, ha, mkObj, List.replicate, q]
end K29
set_option Elab.async false
set_option linter.all false
set_option maxRecDepth 100000
set_option maxHeartbeats 4000000
namespace K29
open PySem Sm
/-! ### what is refused -/
theorem same_hot (n : Int) (S : Sto) : F__law_same_hot [.int n, .int n] S = .ok (.bl true) S :=
  e_fn (e_sq (e_iff (S' := S) (by simp [mFn, mSq, mSkip, mPut, tName, mOwn, mDo, mRet, mIf, bindS, mC, mVar, mOp, mUn, bindX, pureX, ofO, mCons, mNil, mTup, mLst, mCal, mTst, mTru, mAndT, mOrT, mNotT, mAnd, mOr, mNot, truth, asBl, a_int, fSub, fMul, fMod, p4, p9, p12, p13, p18, fLt, fLe, fGt, fGe, q_str, q_int, n_str, n_int, n_bl, sne1, sne2, sne3, sne4, sne5, sne6, x_tup, x_lst, fNeg, fIs, isD, fIsi, isi, kInt, kLen, kMin2, kMax2, mCall, sz_eq]) e_skip) (e_sq (e_iff (S' := S) (by simp [mFn, mSq, mSkip, mPut, tName, mOwn, mDo, mRet, mIf, bindS, mC, mVar, mOp, mUn, bindX, pureX, ofO, mCons, mNil, mTup, mLst, mCal, mTst, mTru, mAndT, mOrT, mNotT, mAnd, mOr, mNot, truth, asBl, a_int, fSub, fMul, fMod, p4, p9, p12, p13, p18, fLt, fLe, fGt, fGe, q_str, q_int, n_str, n_int, n_bl, sne1, sne2, sne3, sne4, sne5, sne6, x_tup, x_lst, fNeg, fIs, isD, fIsi, isi, kInt, kLen, kMin2, kMax2, mCall, sz_eq]) e_skip) (e_sq (e_iff (S' := S) (by simp [mFn, mSq, mSkip, mPut, tName, mOwn, mDo, mRet, mIf, bindS, mC, mVar, mOp, mUn, bindX, pureX, ofO, mCons, mNil, mTup, mLst, mCal, mTst, mTru, mAndT, mOrT, mNotT, mAnd, mOr, mNot, truth, asBl, a_int, fSub, fMul, fMod, p4, p9, p12, p13, p18, fLt, fLe, fGt, fGe, q_str, q_int, n_str, n_int, n_bl, sne1, sne2, sne3, sne4, sne5, sne6, x_tup, x_lst, fNeg, fIs, isD, fIsi, isi, kInt, kLen, kMin2, kMax2, mCall, sz_eq]) e_skip) (e_sqr (e_ift (S' := S) (by simp [mFn, mSq, mSkip, mPut, tName, mOwn, mDo, mRet, mIf, bindS, mC, mVar, mOp, mUn, bindX, pureX, ofO, mCons, mNil, mTup, mLst, mCal, mTst, mTru, mAndT, mOrT, mNotT, mAnd, mOr, mNot, truth, asBl, a_int, fSub, fMul, fMod, p4, p9, p12, p13, p18, fLt, fLe, fGt, fGe, q_str, q_int, n_str, n_int, n_bl, sne1, sne2, sne3, sne4, sne5, sne6, x_tup, x_lst, fNeg, fIs, isD, fIsi, isi, kInt, kLen, kMin2, kMax2, mCall, sz_eq]) (e_ret (by simp [mFn, mSq, mSkip, mPut, tName, mOwn, mDo, mRet, mIf, bindS, mC, mVar, mOp, mUn, bindX, pureX, ofO, mCons, mNil, mTup, mLst, mCal, mTst, mTru, mAndT, mOrT, mNotT, mAnd, mOr, mNot, truth, asBl, a_int, fSub, fMul, fMod, p4, p9, p12, p13, p18, fLt, fLe, fGt, fGe, q_str, q_int, n_str, n_int, n_bl, sne1, sne2, sne3, sne4, sne5, sne6, x_tup, x_lst, fNeg, fIs, isD, fIsi, isi, kInt, kLen, kMin2, kMax2, mCall, sz_eq, F__law_is_integer_hot, m__law_is_integer_hot])))))))
def rh : List Cl := [⟨[(0, true), (1, true), (2, true), (3, true), (4, true)], some 1, fun x => (mSq (mIf (mOrT (mTru (mIsX 1 [(0, false), (1, false), (2, false), (3, true), (4, false)] x)) (mOrT (mTru (mIsX 1 [(0, false), (1, false), (2, false), (3, false), (4, true)] x)) (mTru (mIsX 1 [(0, false), (1, true), (2, false), (3, false), (4, false)] x)))) (mRet (mC (.bl false))) mSkip) (mRet (mAnd (mIsX 1 [(0, true), (1, true), (2, true), (3, true), (4, true)] x) (mAnd (mIsX 1 [(0, false), (1, false), (2, true), (3, false), (4, false)] x) (mCall F__law_same_hot (mCons (mXf 1 [(2, 0), (3, 1)] x) (mCons (mVar 0) mNil)))))))⟩]
theorem rh_at (n : Int) (S : Sto) : mHd rh ⟨2, [.int n]⟩ [some (.int n), none] S = .ret (.bl true) S := by
  simp [mFn, mSq, mSkip, mPut, tName, mOwn, mDo, mRet, mIf, bindS, mC, mVar, mOp, mUn, bindX, pureX, ofO, mCons, mNil, mTup, mLst, mCal, mTst, mTru, mAndT, mOrT, mNotT, mAnd, mOr, mNot, truth, asBl, a_int, fSub, fMul, fMod, p4, p9, p12, p13, p18, fLt, fLe, fGt, fGe, q_str, q_int, n_str, n_int, n_bl, sne1, sne2, sne3, sne4, sne5, sne6, x_tup, x_lst, fNeg, fIs, isD, fIsi, isi, kInt, kLen, kMin2, kMax2, mCall, sz_eq, rh, mHd, List.lookup, suEnd, unset, mXf, mIsX, same_hot]
theorem refuses_at (n : Int) (h : n < 0 ∨ 1000000000000 < n) (S : Sto) : ∃ S', F__law_refuses [.int n] S = .ok (.bl true) S' :=
  ⟨_, e_fn (e_sqr (e_trye (cs := rh) (e_doe (mk_err (ma := mCons (mVar 0) mNil) (c := n) rfl h)) (rh_at n _)))⟩
/-! ### the first sums -/
theorem first_at (c : Int) (S : Sto) : ∃ v : Int, 0 ≤ v ∧ v ≤ 1000000000000 ∧ F__law_first [.int c] S = .ok (.int v) S := by
  obtain ⟨l, hd, hF⟩ := draws_at c 2 10000000000000 (by decide) (by decide) S
  obtain ⟨x, y, rfl⟩ : ∃ x y, l = [x, y] := by
    have := hd.len
    match l, this with
    | [x, y], _ => exact ⟨x, y, rfl⟩
  have hx := hd.lo x (by simp)
  have hy := hd.lo y (by simp)
  have a1 : mPut (tName 1) (mCall F__law_draws (mCons (mVar 0) (mCons (mC (.int 2)) (mCons (mOp fPow (mC (.int 10)) (mC (.int 13))) mNil)))) [some (.int c), none, none, none] S = .next [some (.int c), some (.lst [.int x, .int y]), none, none] S :=
    e_put (e_call3 rfl rfl (by simp [mFn, mSq, mSkip, mPut, tName, mOwn, mDo, mRet, mIf, bindS, mC, mVar, mOp, mUn, bindX, pureX, ofO, mCons, mNil, mTup, mLst, mCal, mTst, mTru, mAndT, mOrT, mNotT, mAnd, mOr, mNot, truth, asBl, a_int, fSub, fMul, fMod, p4, p9, p12, p13, p18, fLt, fLe, fGt, fGe, q_str, q_int, n_str, n_int, n_bl, sne1, sne2, sne3, sne4, sne5, sne6, x_tup, x_lst, fNeg, fIs, isD, fIsi, isi, kInt, kLen, kMin2, kMax2, mCall, sz_eq]) hF)
  have a2 : mPut (tName 2) (mCal kInt (mCons (mOp fIx (mVar 1) (mC (.int 1))) mNil)) [some (.int c), some (.lst [.int x, .int y]), none, none] S = .next [some (.int c), some (.lst [.int x, .int y]), some (.int y), none] S :=
    e_put (by simp [mFn, mSq, mSkip, mPut, tName, mOwn, mDo, mRet, mIf, bindS, mC, mVar, mOp, mUn, bindX, pureX, ofO, mCons, mNil, mTup, mLst, mCal, mTst, mTru, mAndT, mOrT, mNotT, mAnd, mOr, mNot, truth, asBl, a_int, fSub, fMul, fMod, p4, p9, p12, p13, p18, fLt, fLe, fGt, fGe, q_str, q_int, n_str, n_int, n_bl, sne1, sne2, sne3, sne4, sne5, sne6, x_tup, x_lst, fNeg, fIs, isD, fIsi, isi, kInt, kLen, kMin2, kMax2, mCall, sz_eq, L2.atI, L2.ixN])
  have a3 : mPut (tName 3) (mLst (mCons (mC (.int 0)) (mCons (mOp fMod (mVar 2) (mC (.int 21))) (mCons (mOp fPow (mC (.int 10)) (mC (.int 12))) (mCons (mOp fSub (mOp fPow (mC (.int 10)) (mC (.int 12))) (mOp fMod (mVar 2) (mC (.int 21)))) (mCons (mOp fMod (mVar 2) (mOp fAdd (mOp fPow (mC (.int 10)) (mC (.int 9))) (mC (.int 3)))) (mCons (mOp fMod (mVar 2) (mOp fAdd (mOp fPow (mC (.int 10)) (mC (.int 12))) (mC (.int 1)))) mNil))))))) [some (.int c), some (.lst [.int x, .int y]), some (.int y), none] S =
      .next [some (.int c), some (.lst [.int x, .int y]), some (.int y), some (.lst (([0, y % 21, 1000000000000, 1000000000000 - y % 21, y % 1000000003, y % 1000000000001] : List Int).map D.int))] S := e_put (by simp [mFn, mSq, mSkip, mPut, tName, mOwn, mDo, mRet, mIf, bindS, mC, mVar, mOp, mUn, bindX, pureX, ofO, mCons, mNil, mTup, mLst, mCal, mTst, mTru, mAndT, mOrT, mNotT, mAnd, mOr, mNot, truth, asBl, a_int, fSub, fMul, fMod, p4, p9, p12, p13, p18, fLt, fLe, fGt, fGe, q_str, q_int, n_str, n_int, n_bl, sne1, sne2, sne3, sne4, sne5, sne6, x_tup, x_lst, fNeg, fIs, isD, fIsi, isi, kInt, kLen, kMin2, kMax2, mCall, sz_eq])
  have hi : 0 ≤ x % 6 ∧ x % 6 < 6 := by omega
  have hk : ∃ v : Int, 0 ≤ v ∧ v ≤ 1000000000000 ∧ fIx (.lst (([0, y % 21, 1000000000000, 1000000000000 - y % 21, y % 1000000003, y % 1000000000001] : List Int).map D.int)) (.int (x % 6)) = some (.int v) := by
    obtain ⟨k, hk⟩ : ∃ k, k = x % 6 := ⟨_, rfl⟩
    rw [← hk] at hi ⊢
    have : k = 0 ∨ k = 1 ∨ k = 2 ∨ k = 3 ∨ k = 4 ∨ k = 5 := by omega
    rcases this with rfl | rfl | rfl | rfl | rfl | rfl
    · exact ⟨_, by omega, by omega, rfl⟩
    · exact ⟨y % 21, by omega, by omega, rfl⟩
    · exact ⟨1000000000000, by omega, by omega, rfl⟩
    · exact ⟨1000000000000 - y % 21, by omega, by omega, rfl⟩
    · exact ⟨y % 1000000003, by omega, by omega, rfl⟩
    · exact ⟨y % 1000000000001, by omega, by omega, rfl⟩
  obtain ⟨v, h0, h1, hv⟩ := hk
  refine ⟨v, h0, h1, e_fn (e_sq a1 (e_sq a2 (e_sq a3 (e_ret ?_))))⟩
  obtain ⟨L, hL⟩ : ∃ L, L = D.lst (([0, y % 21, 1000000000000, 1000000000000 - y % 21, y % 1000000003, y % 1000000000001] : List Int).map D.int) := ⟨_, rfl⟩
  rw [← hL] at hv ⊢
  have e : mOp fMod (mCal kInt (mCons (mOp fIx (mVar 1) (mC (.int 0))) mNil)) (mC (.int 6)) [some (.int c), some (.lst [.int x, .int y]), some (.int y), some L] S = .ok (.int (x % 6)) S := by simp [mFn, mSq, mSkip, mPut, tName, mOwn, mDo, mRet, mIf, bindS, mC, mVar, mOp, mUn, bindX, pureX, ofO, mCons, mNil, mTup, mLst, mCal, mTst, mTru, mAndT, mOrT, mNotT, mAnd, mOr, mNot, truth, asBl, a_int, fSub, fMul, fMod, p4, p9, p12, p13, p18, fLt, fLe, fGt, fGe, q_str, q_int, n_str, n_int, n_bl, sne1, sne2, sne3, sne4, sne5, sne6, x_tup, x_lst, fNeg, fIs, isD, fIsi, isi, kInt, kLen, kMin2, kMax2, mCall, sz_eq, L2.atI, L2.ixN]
  have e3 : mVar 3 [some (.int c), some (.lst [.int x, .int y]), some (.int y), some L] S = .ok L S := rfl
  rw [show mOp fIx (mVar 3) (mOp fMod (mCal kInt (mCons (mOp fIx (mVar 1) (mC (.int 0))) mNil)) (mC (.int 6))) = bindX (mVar 3) (fun x1 => bindX (mOp fMod (mCal kInt (mCons (mOp fIx (mVar 1) (mC (.int 0))) mNil)) (mC (.int 6))) fun y1 => ofO (fIx x1 y1)) from rfl]
  unfold bindX
  rw [e3]
  show (match mOp fMod (mCal kInt (mCons (mOp fIx (mVar 1) (mC (.int 0))) mNil)) (mC (.int 6)) [some (.int c), some (.lst [.int x, .int y]), some (.int y), some L] S with | .ok a S' => ofO (fIx L a) _ S' | .err x S' => .err x S' | .stuck => .stuck) = _
  rw [e]
  show ofO (fIx L (.int (x % 6))) _ S = _
  rw [hv]; rfl
end K29
set_option Elab.async false
set_option linter.all false
set_option maxRecDepth 100000
set_option maxHeartbeats 4000000
namespace K29
open PySem Sm
theorem e_op {f : D → D → Option D} {ma mb : Mx D} {x y z : D} {sl : List (Option D)} {S : Sto} (ha : ma sl S = .ok x S) (hb : mb sl S = .ok y S) (hf : f x y = some z) : mOp f ma mb sl S = .ok z S := by
  simp only [mOp, bindX, ha, hb, hf, ofO]
theorem ix_ex {xs : List D} {k : Int} (h : 0 ≤ k) (h2 : k < xs.length) : ∃ x ∈ xs, fIx (.lst xs) (.int k) = some x := by
  have hk : k.toNat < xs.length := by omega
  refine ⟨xs[k.toNat], List.getElem_mem _, ?_⟩
  show L2.atI xs k = _
  unfold L2.atI L2.ixN
  rw [if_pos h, if_pos h2]
  show xs[k.toNat]? = _
  simp [hk]
section
variable {m1 m2 m3 m4 m5 : Mx D} {a b c d e : D} {sl : List (Option D)} {S : Sto}
theorem e_tup5 (h1 : m1 sl S = .ok a S) (h2 : m2 sl S = .ok b S) (h3 : m3 sl S = .ok c S) (h4 : m4 sl S = .ok d S) (h5 : m5 sl S = .ok e S) : mTup (mCons m1 (mCons m2 (mCons m3 (mCons m4 (mCons m5 mNil))))) sl S = .ok (.tup [a, b, c, d, e]) S := by
  simp [mTup, mCons, mNil, bindX, pureX, h1, h2, h3, h4, h5, sz_eq]
theorem e_tup2 (h1 : m1 sl S = .ok a S) (h2 : m2 sl S = .ok b S) : mTup (mCons m1 (mCons m2 mNil)) sl S = .ok (.tup [a, b]) S := by
  simp [mTup, mCons, mNil, bindX, pureX, h1, h2, sz_eq]
end
/-! ### the deeds drawn -/
def okw (x : Str) : Prop := PyData.strOk x = true
def De.ok : De → Prop
  | .pay n _ m _ => okw n ∧ okw m
  | _ => True
theorem deed_at (l : List Int) (hd : Drw l 6 10000000000000) (a b c : Str) (ha : okw a) (hb : okw b) (hc : okw c) (left : Int) (hl : 0 ≤ left) (S : Sto) :
    ∃ de : De, de.ok ∧ F__law_deed [.lst (l.map D.int), W3 a b c, .int left] S = .ok de.d S := by
  obtain ⟨d0, d1, d2, d3, d4, d5, rfl⟩ : ∃ d0 d1 d2 d3 d4 d5, l = [d0, d1, d2, d3, d4, d5] := by
    have := hd.len
    match l, this with
    | [d0, d1, d2, d3, d4, d5], _ => exact ⟨d0, d1, d2, d3, d4, d5, rfl⟩
  have h3 := hd.lo d3 (by simp)
  have h5 := hd.lo d5 (by simp)
  obtain ⟨X, hX⟩ : ∃ X, X = D.lst [.int d0, .int d1, .int d2, .int d3, .int d4, .int d5] := ⟨_, rfl⟩
  obtain ⟨mo, hmo⟩ : ∃ mo, mo = (if 1000000000 < left then 1000000000 else left) := ⟨_, rfl⟩
  have hm0 : 0 ≤ mo ∧ mo ≤ 1000000000 := by rw [hmo]; split <;> omega
  have x0 : ∀ (k : Int) (v : Int) (sl : List (Option D)), sl[0]? = some (some X) → fIx X (.int k) = some (.int v) → mCal kInt (mCons (mOp fIx (mVar 0) (mC (.int k))) mNil) sl S = .ok (.int v) S := fun k v sl h1 h2 => by
    have z : mVar 0 sl S = .ok X S := by simp [mVar, h1]
    simp only [mCal, mCons, mNil, bindX, pureX, mOp, z, mC, h2, ofO, kInt]
  have f1 : fIx X (.int 1) = some (.int d1) := by subst hX; rfl
  have f2 : fIx X (.int 2) = some (.int d2) := by subst hX; rfl
  have f3 : fIx X (.int 3) = some (.int d3) := by subst hX; rfl
  have f4 : fIx X (.int 4) = some (.int d4) := by subst hX; rfl
  have f5 : fIx X (.int 5) = some (.int d5) := by subst hX; rfl
  have md : ∀ (m : Mx D) (v j : Int) (sl : List (Option D)), 0 < j → m sl S = .ok (.int v) S → mOp fMod m (mC (.int j)) sl S = .ok (.int (v % j)) S := fun m v j sl hj h => e_op h rfl (by show (if 0 < j then some (D.int (v % j)) else none) = _; rw [if_pos hj])
  have a1 : mPut (tName 3) (mCal kInt (mCons (mOp fIx (mVar 0) (mC (.int 5))) mNil)) [some X, some (W3 a b c), some (.int left), none, none, none, none, none, none] S = .next [some X, some (W3 a b c), some (.int left), some (.int d5), none, none, none, none, none] S := e_put (x0 5 d5 _ rfl f5)
  have a2 : mPut (tName 4) (mOp fMod (mCal kInt (mCons (mOp fIx (mVar 0) (mC (.int 4))) mNil)) (mC (.int 8))) [some X, some (W3 a b c), some (.int left), some (.int d5), none, none, none, none, none] S = .next [some X, some (W3 a b c), some (.int left), some (.int d5), some (.int (d4 % 8)), none, none, none, none] S := e_put (md _ _ 8 _ (by decide) (x0 4 d4 _ rfl f4))
  have a3 : mPut (tName 5) (mCal kMin2 (mCons (mVar 2) (mCons (mOp fPow (mC (.int 10)) (mC (.int 9))) mNil))) [some X, some (W3 a b c), some (.int left), some (.int d5), some (.int (d4 % 8)), none, none, none, none] S = .next [some X, some (W3 a b c), some (.int left), some (.int d5), some (.int (d4 % 8)), some (.int mo), none, none, none] S := e_put (by rw [hmo]; simp [mFn, mSq, mSkip, mPut, tName, mOwn, mDo, mRet, mIf, bindS, mC, mVar, mOp, mUn, bindX, pureX, ofO, mCons, mNil, mTup, mLst, mCal, mTst, mTru, mAndT, mOrT, mNotT, mAnd, mOr, mNot, truth, asBl, a_int, fSub, fMul, fMod, p4, p9, p12, p13, p18, fLt, fLe, fGt, fGe, q_str, q_int, n_str, n_int, n_bl, sne1, sne2, sne3, sne4, sne5, sne6, x_tup, x_lst, fNeg, fIs, isD, fIsi, isi, kInt, kLen, kMin2, kMax2, mCall, sz_eq])
  have hch : 0 ≤ d4 % 8 ∧ d4 % 8 < 8 := by omega
  have hsl : [some X, some (W3 a b c), some (.int left)] = [D.lst ([d0, d1, d2, d3, d4, d5].map D.int), W3 a b c, .int left].map some := by subst hX; rfl
  by_cases c1 : d1 % 8 < 4
  · have t1 : mTst (mOp fLt (mOp fMod (mCal kInt (mCons (mOp fIx (mVar 0) (mC (.int 1))) mNil)) (mC (.int 8))) (mC (.int 4))) [some X, some (W3 a b c), some (.int left), some (.int d5), some (.int (d4 % 8)), some (.int mo), none, none, none] S = .ok true S := by
      have z := e_op (f := fLt) (md _ _ 8 [some X, some (W3 a b c), some (.int left), some (.int d5), some (.int (d4 % 8)), some (.int mo), none, none, none] (by decide) (x0 1 d1 _ rfl f1)) (show mC (.int 4) _ S = .ok (.int 4) S from rfl) (z := .bl true) (by simp [fLt, c1])
      simp only [mTst, bindX, z, asBl, ofO]
    obtain ⟨kd, hkm, hkd⟩ := ix_ex (xs := [.str "quiet", .str "odd", .str "edge", .str "strife"]) (k := d3 / 24 % 4) (by omega) (by simp; omega)
    obtain ⟨kn, rfl, hkn⟩ : ∃ kn, kd = .str kn ∧ okw kn := by
      simp at hkm
      rcases hkm with rfl | rfl | rfl | rfl <;> exact ⟨_, rfl, by unfold okw; decide +kernel⟩
    have a4 : mPut (tName 6) (mOp fIx (mLst (mCons (mC (.str "quiet")) (mCons (mC (.str "odd")) (mCons (mC (.str "edge")) (mCons (mC (.str "strife")) mNil))))) (mOp fMod (mOp fFdiv (mCal kInt (mCons (mOp fIx (mVar 0) (mC (.int 3))) mNil)) (mC (.int 24))) (mC (.int 4)))) [some X, some (W3 a b c), some (.int left), some (.int d5), some (.int (d4 % 8)), some (.int mo), none, none, none] S = .next [some X, some (W3 a b c), some (.int left), some (.int d5), some (.int (d4 % 8)), some (.int mo), some (.str kn), none, none] S :=
      e_put (e_op (by simp [mFn, mSq, mSkip, mPut, tName, mOwn, mDo, mRet, mIf, bindS, mC, mVar, mOp, mUn, bindX, pureX, ofO, mCons, mNil, mTup, mLst, mCal, mTst, mTru, mAndT, mOrT, mNotT, mAnd, mOr, mNot, truth, asBl, a_int, fSub, fMul, fMod, p4, p9, p12, p13, p18, fLt, fLe, fGt, fGe, q_str, q_int, n_str, n_int, n_bl, sne1, sne2, sne3, sne4, sne5, sne6, x_tup, x_lst, fNeg, fIs, isD, fIsi, isi, kInt, kLen, kMin2, kMax2, mCall, sz_eq]) (md _ _ 4 _ (by decide) (e_op (x0 3 d3 _ rfl f3) rfl (fdiv_at (by decide) (by decide)))) hkd)
    have p1 : (0 : Int) < 1000000001 := by decide
    have p2 : 0 < mo + 1 := by omega
    obtain ⟨cs, hcs⟩ : ∃ cs : List D, cs = [.int 0, .int mo, .int (if 1000000000 < left + 1 then 1000000000 else left + 1), .int (d5 % 21), .int (d5 % 1000000001), .int 1000000000, .int (if 0 > mo - 1 then 0 else mo - 1)] := ⟨_, rfl⟩
    have a5 : mPut (tName 7) (mLst (mCons (mC (.int 0)) (mCons (mVar 5) (mCons (mCal kMin2 (mCons (mOp fAdd (mVar 2) (mC (.int 1))) (mCons (mOp fPow (mC (.int 10)) (mC (.int 9))) mNil))) (mCons (mOp fMod (mVar 3) (mC (.int 21))) (mCons (mOp fMod (mVar 3) (mOp fAdd (mOp fPow (mC (.int 10)) (mC (.int 9))) (mC (.int 1)))) (mCons (mOp fPow (mC (.int 10)) (mC (.int 9))) (mCons (mCal kMax2 (mCons (mOp fSub (mVar 5) (mC (.int 1))) (mCons (mC (.int 0)) mNil))) mNil)))))))) [some X, some (W3 a b c), some (.int left), some (.int d5), some (.int (d4 % 8)), some (.int mo), some (.str kn), none, none] S = .next [some X, some (W3 a b c), some (.int left), some (.int d5), some (.int (d4 % 8)), some (.int mo), some (.str kn), some (.lst cs), none] S :=
      e_put (by rw [hcs]; simp [mFn, mSq, mSkip, mPut, tName, mOwn, mDo, mRet, mIf, bindS, mC, mVar, mOp, mUn, bindX, pureX, ofO, mCons, mNil, mTup, mLst, mCal, mTst, mTru, mAndT, mOrT, mNotT, mAnd, mOr, mNot, truth, asBl, a_int, fSub, fMul, fMod, p4, p9, p12, p13, p18, fLt, fLe, fGt, fGe, q_str, q_int, n_str, n_int, n_bl, sne1, sne2, sne3, sne4, sne5, sne6, x_tup, x_lst, fNeg, fIs, isD, fIsi, isi, kInt, kLen, kMin2, kMax2, mCall, sz_eq])
    have a6 : mPut (tName 7) (mOp fAdd (mVar 7) (mLst (mCons (mOp fMod (mVar 3) (mOp fAdd (mVar 5) (mC (.int 1)))) mNil))) [some X, some (W3 a b c), some (.int left), some (.int d5), some (.int (d4 % 8)), some (.int mo), some (.str kn), some (.lst cs), none] S = .next [some X, some (W3 a b c), some (.int left), some (.int d5), some (.int (d4 % 8)), some (.int mo), some (.str kn), some (.lst (cs ++ [.int (d5 % (mo + 1))])), none] S :=
      e_put (e_op (x := .lst cs) (y := .lst [.int (d5 % (mo + 1))]) rfl (by simp [mFn, mSq, mSkip, mPut, tName, mOwn, mDo, mRet, mIf, bindS, mC, mVar, mOp, mUn, bindX, pureX, ofO, mCons, mNil, mTup, mLst, mCal, mTst, mTru, mAndT, mOrT, mNotT, mAnd, mOr, mNot, truth, asBl, a_int, fSub, fMul, fMod, p4, p9, p12, p13, p18, fLt, fLe, fGt, fGe, q_str, q_int, n_str, n_int, n_bl, sne1, sne2, sne3, sne4, sne5, sne6, x_tup, x_lst, fNeg, fIs, isD, fIsi, isi, kInt, kLen, kMin2, kMax2, mCall, sz_eq, p2]) (by rw [hcs]; simp [fAdd, sz_eq]))
    obtain ⟨pr, hpm, hpr⟩ := ix_ex (xs := cs ++ [.int (d5 % (mo + 1))]) (k := d4 % 8) hch.1 (by rw [hcs]; simp; omega)
    obtain ⟨p, rfl⟩ : ∃ p, pr = .int p := by
      rw [hcs] at hpm
      simp at hpm
      rcases hpm with rfl | rfl | rfl | rfl | rfl | rfl | rfl | rfl <;> exact ⟨_, rfl⟩
    obtain ⟨wd, hwm, hwd⟩ := ix_ex (xs := [.str a, .str b, .str c]) (k := d2 % 3) (by omega) (by simp; omega)
    obtain ⟨nm, rfl, hnm⟩ : ∃ nm, wd = .str nm ∧ okw nm := by
      simp at hwm
      rcases hwm with rfl | rfl | rfl
      · exact ⟨_, rfl, ha⟩
      · exact ⟨_, rfl, hb⟩
      · exact ⟨_, rfl, hc⟩
    refine ⟨.pay nm (d3 % 24) kn p, ⟨hnm, hkn⟩, e_fn ?_⟩
    subst hX
    refine e_sq a1 (e_sq a2 (e_sq a3 (e_sqr (e_ift t1 (e_sq a4 (e_sq a5 (e_sq a6 (e_ret ?_))))))))
    have q1 : mOp fIx (mVar 1) (mOp fMod (mCal kInt (mCons (mOp fIx (mVar 0) (mC (.int 2))) mNil)) (mC (.int 3))) [some (.lst [.int d0, .int d1, .int d2, .int d3, .int d4, .int d5]), some (W3 a b c), some (.int left), some (.int d5), some (.int (d4 % 8)), some (.int mo), some (.str kn), some (.lst (cs ++ [.int (d5 % (mo + 1))])), none] S = .ok (.str nm) S := e_op (x := W3 a b c) rfl (md _ _ 3 _ (by decide) (x0 2 d2 _ rfl f2)) hwd
    have q2 := md _ d3 24 [some (.lst [.int d0, .int d1, .int d2, .int d3, .int d4, .int d5]), some (W3 a b c), some (.int left), some (.int d5), some (.int (d4 % 8)), some (.int mo), some (.str kn), some (.lst (cs ++ [.int (d5 % (mo + 1))])), none] (by decide) (x0 3 d3 _ rfl f3)
    have q3 : mVar 6 [some (.lst [.int d0, .int d1, .int d2, .int d3, .int d4, .int d5]), some (W3 a b c), some (.int left), some (.int d5), some (.int (d4 % 8)), some (.int mo), some (.str kn), some (.lst (cs ++ [.int (d5 % (mo + 1))])), none] S = .ok (.str kn) S := rfl
    have q4 : mOp fIx (mVar 7) (mVar 4) [some (.lst [.int d0, .int d1, .int d2, .int d3, .int d4, .int d5]), some (W3 a b c), some (.int left), some (.int d5), some (.int (d4 % 8)), some (.int mo), some (.str kn), some (.lst (cs ++ [.int (d5 % (mo + 1))])), none] S = .ok (.int p) S := e_op rfl rfl hpr
    exact e_tup5 rfl q1 q2 q3 q4
  · have t1 : mTst (mOp fLt (mOp fMod (mCal kInt (mCons (mOp fIx (mVar 0) (mC (.int 1))) mNil)) (mC (.int 8))) (mC (.int 4))) [some X, some (W3 a b c), some (.int left), some (.int d5), some (.int (d4 % 8)), some (.int mo), none, none, none] S = .ok false S := by
      have z := e_op (f := fLt) (md _ _ 8 [some X, some (W3 a b c), some (.int left), some (.int d5), some (.int (d4 % 8)), some (.int mo), none, none, none] (by decide) (x0 1 d1 _ rfl f1)) (show mC (.int 4) _ S = .ok (.int 4) S from rfl) (z := .bl false) (by simp [fLt, c1])
      simp only [mTst, bindX, z, asBl, ofO]
    by_cases c2 : d1 % 8 < 6
    · have t2 : mTst (mOp fLt (mOp fMod (mCal kInt (mCons (mOp fIx (mVar 0) (mC (.int 1))) mNil)) (mC (.int 8))) (mC (.int 6))) [some X, some (W3 a b c), some (.int left), some (.int d5), some (.int (d4 % 8)), some (.int mo), none, none, none] S = .ok true S := by
        have z := e_op (f := fLt) (md _ _ 8 [some X, some (W3 a b c), some (.int left), some (.int d5), some (.int (d4 % 8)), some (.int mo), none, none, none] (by decide) (x0 1 d1 _ rfl f1)) (show mC (.int 6) _ S = .ok (.int 6) S from rfl) (z := .bl true) (by simp [fLt, c2])
        simp only [mTst, bindX, z, asBl, ofO]
      obtain ⟨cs, hcs⟩ : ∃ cs : List D, cs = [.int 0, .int (-1 - d5 % 1000000000), .int 1000000000, .int (1000000001 + d5 % 1000000000), .int (1 + d5 % 21)] := ⟨_, rfl⟩
      have a5 : mPut (tName 8) (mLst (mCons (mC (.int 0)) (mCons (mOp fSub (mUn fNeg (mC (.int 1))) (mOp fMod (mVar 3) (mOp fPow (mC (.int 10)) (mC (.int 9))))) (mCons (mOp fPow (mC (.int 10)) (mC (.int 9))) (mCons (mOp fAdd (mOp fAdd (mOp fPow (mC (.int 10)) (mC (.int 9))) (mC (.int 1))) (mOp fMod (mVar 3) (mOp fPow (mC (.int 10)) (mC (.int 9))))) (mCons (mOp fAdd (mC (.int 1)) (mOp fMod (mVar 3) (mC (.int 21)))) mNil)))))) [some X, some (W3 a b c), some (.int left), some (.int d5), some (.int (d4 % 8)), some (.int mo), none, none, none] S = .next [some X, some (W3 a b c), some (.int left), some (.int d5), some (.int (d4 % 8)), some (.int mo), none, none, some (.lst cs)] S :=
        e_put (by rw [hcs]; simp [mFn, mSq, mSkip, mPut, tName, mOwn, mDo, mRet, mIf, bindS, mC, mVar, mOp, mUn, bindX, pureX, ofO, mCons, mNil, mTup, mLst, mCal, mTst, mTru, mAndT, mOrT, mNotT, mAnd, mOr, mNot, truth, asBl, a_int, fSub, fMul, fMod, p4, p9, p12, p13, p18, fLt, fLe, fGt, fGe, q_str, q_int, n_str, n_int, n_bl, sne1, sne2, sne3, sne4, sne5, sne6, x_tup, x_lst, fNeg, fIs, isD, fIsi, isi, kInt, kLen, kMin2, kMax2, mCall, sz_eq])
      obtain ⟨cs2, hcs2⟩ : ∃ cs2 : List D, cs2 = [.int (1 + d5 % 1000000000), .int (1000000000000 - left), .int (1000000000000 - left + 1)] := ⟨_, rfl⟩
      have a6 : mPut (tName 8) (mOp fAdd (mVar 8) (mLst (mCons (mOp fAdd (mC (.int 1)) (mOp fMod (mVar 3) (mOp fPow (mC (.int 10)) (mC (.int 9))))) (mCons (mOp fSub (mOp fPow (mC (.int 10)) (mC (.int 12))) (mVar 2)) (mCons (mOp fAdd (mOp fSub (mOp fPow (mC (.int 10)) (mC (.int 12))) (mVar 2)) (mC (.int 1))) mNil))))) [some X, some (W3 a b c), some (.int left), some (.int d5), some (.int (d4 % 8)), some (.int mo), none, none, some (.lst cs)] S = .next [some X, some (W3 a b c), some (.int left), some (.int d5), some (.int (d4 % 8)), some (.int mo), none, none, some (.lst (cs ++ cs2))] S :=
        e_put (e_op (x := .lst cs) (y := .lst cs2) rfl (by rw [hcs2]; simp [mFn, mSq, mSkip, mPut, tName, mOwn, mDo, mRet, mIf, bindS, mC, mVar, mOp, mUn, bindX, pureX, ofO, mCons, mNil, mTup, mLst, mCal, mTst, mTru, mAndT, mOrT, mNotT, mAnd, mOr, mNot, truth, asBl, a_int, fSub, fMul, fMod, p4, p9, p12, p13, p18, fLt, fLe, fGt, fGe, q_str, q_int, n_str, n_int, n_bl, sne1, sne2, sne3, sne4, sne5, sne6, x_tup, x_lst, fNeg, fIs, isD, fIsi, isi, kInt, kLen, kMin2, kMax2, mCall, sz_eq]) (by rw [hcs, hcs2]; simp [fAdd, sz_eq]))
      obtain ⟨pr, hpm, hpr⟩ := ix_ex (xs := cs ++ cs2) (k := d4 % 8) hch.1 (by rw [hcs, hcs2]; simp; omega)
      obtain ⟨p, rfl⟩ : ∃ p, pr = .int p := by
        rw [hcs, hcs2] at hpm
        simp at hpm
        rcases hpm with rfl | rfl | rfl | rfl | rfl | rfl | rfl | rfl <;> exact ⟨_, rfl⟩
      refine ⟨.inn p, trivial, e_fn ?_⟩
      subst hX
      exact e_sq a1 (e_sq a2 (e_sq a3 (e_sq (e_iff t1 e_skip) (e_sqr (e_ift t2 (e_sq a5 (e_sq a6 (e_ret (e_tup2 rfl (e_op rfl rfl hpr))))))))))
    · have t2 : mTst (mOp fLt (mOp fMod (mCal kInt (mCons (mOp fIx (mVar 0) (mC (.int 1))) mNil)) (mC (.int 8))) (mC (.int 6))) [some X, some (W3 a b c), some (.int left), some (.int d5), some (.int (d4 % 8)), some (.int mo), none, none, none] S = .ok false S := by
        have z := e_op (f := fLt) (md _ _ 8 [some X, some (W3 a b c), some (.int left), some (.int d5), some (.int (d4 % 8)), some (.int mo), none, none, none] (by decide) (x0 1 d1 _ rfl f1)) (show mC (.int 6) _ S = .ok (.int 6) S from rfl) (z := .bl false) (by simp [fLt, c2])
        simp only [mTst, bindX, z, asBl, ofO]
      refine ⟨.back, trivial, e_fn ?_⟩
      subst hX
      exact e_sq a1 (e_sq a2 (e_sq a3 (e_sq (e_iff t1 e_skip) (e_sq (e_iff t2 e_skip) (e_ret (e_tup2 rfl rfl))))))
end K29
set_option Elab.async false
set_option linter.all false
set_option maxRecDepth 100000
set_option maxHeartbeats 4000000
namespace K29
open PySem Sm TL
/-! ### words -/
def Ls : Str := "abcdefghijklmnopqrstuvwxyz"
/-- short, of signs that can be -/
structure Okl (x : Str) (n : Nat) : Prop where
  len : x.cps.toList.length ≤ n
  lo : ∀ c ∈ x.cps.toList, c < 0x110000
theorem Okl.w {x : Str} {n : Nat} (h : Okl x n) : okw x := by
  unfold okw PyData.strOk
  rw [← Array.all_toList]
  exact List.all_eq_true.mpr fun c hc => decide_eq_true (h.lo c hc)
theorem Okl.cut {x : Str} {n : Nat} (h : Okl x n) (lo hi : Option Int) : Okl (L2.cutS x lo hi) n := by
  have e : (L2.cutS x lo hi).cps.toList = (x.cps.toList.drop (HT.sIx x.length 0 lo)).take (HT.sIx x.length x.length hi - HT.sIx x.length 0 lo) := rfl
  refine ⟨?_, fun c hc => ?_⟩
  · rw [e, List.length_take, List.length_drop]
    have := h.len
    omega
  · rw [e] at hc
    exact h.lo c (List.mem_of_mem_drop (List.mem_of_mem_take hc))
theorem Okl.app {x y : Str} {n m : Nat} (h : Okl x n) (k : Okl y m) : Okl (x ++ y) (n + m) := by
  have e : (x ++ y).cps.toList = x.cps.toList ++ y.cps.toList := by
    show (x.cps ++ y.cps).toList = _
    simp
  refine ⟨?_, fun c hc => ?_⟩
  · rw [e, List.length_append]
    exact Nat.add_le_add h.len k.len
  · rw [e] at hc
    exact (List.mem_append.mp hc).elim (h.lo c) (k.lo c)
theorem len_le {x : Str} {n : Nat} (h : Okl x n) : x.length ≤ n := by
  have := h.len
  rw [Array.length_toList] at this
  exact this
theorem add_str {x y : Str} {n m : Nat} (h : Okl x n) (k : Okl y m) (hn : n + m < 1000) : fAdd (.str x) (.str y) = some (.str (x ++ y)) := by
  have h1 := len_le h
  have h2 := len_le k
  show (if x.length + y.length ≤ sizeLine then some (D.str (x ++ y)) else none) = _
  rw [if_pos (by rw [sz_eq]; omega)]
theorem cut_str {x : Str} {n : Nat} (h : Okl x n) (hn : n < 1000) (lo hi : Option Int) : fSl (.str x) lo hi = some (.str (L2.cutS x lo hi)) := by
  have h1 := len_le h
  show (if x.length ≤ sizeLine then some (D.str (L2.cutS x lo hi)) else none) = _
  rw [if_pos (by rw [sz_eq]; omega)]
theorem ix_str {x : Str} {n : Nat} (h : Okl x n) (hn : n < 1000) {k : Int} (h0 : 0 ≤ k) (h1 : k < x.cps.toList.length) : fIx (.str x) (.int k) = some (.str ⟨#[x.cps.toList.getD k.toNat 0]⟩) := by
  have h2 := len_le h
  have hk : k.toNat < x.cps.toList.length := by omega
  show (if x.length ≤ sizeLine then (L2.atI x.cps.toList k).map fun c => D.str ⟨#[c]⟩ else none) = _
  rw [if_pos (by rw [sz_eq]; omega)]
  unfold L2.atI L2.ixN
  rw [if_pos h0, if_pos h1]
  show (x.cps.toList[k.toNat]?).map _ = _
  rw [List.getD_eq_getElem?_getD, List.getElem?_eq_getElem hk]
  rfl
theorem Ls_len : Ls.cps.toList.length = 26 := by decide +kernel
theorem Ls_ok : Okl Ls 26 := ⟨Nat.le_of_eq Ls_len, by decide +kernel⟩
theorem one_ok {c : Nat} (h : c ∈ Ls.cps.toList) : Okl ⟨#[c]⟩ 1 := ⟨by simp, fun d hd => by simp at hd; subst hd; exact Ls_ok.lo _ h⟩
theorem Ls_ix : ∀ c ∈ Ls.cps.toList, (Builtin.Str.occurrences Ls ⟨#[c]⟩ 0 Ls.length 1).isEmpty = false := by decide +kernel
def Lc (d : Int) : Nat := Ls.cps.toList.getD (d % 26).toNat 0
theorem Lc_mem (d : Int) : Lc d ∈ Ls.cps.toList := by
  unfold Lc
  have h : (d % 26).toNat < Ls.cps.toList.length := by rw [Ls_len]; omega
  rw [List.getD_eq_getElem?_getD, List.getElem?_eq_getElem h]
  exact List.getElem_mem _
theorem Ls_at (d : Int) : fIx (.str Ls) (.int (d % 26)) = some (.str ⟨#[Lc d]⟩) := ix_str Ls_ok (by decide) (by omega) (by rw [Ls_len]; omega)
theorem joinL_one : ∀ l : List Nat, joinL [] (l.map fun c => [c]) = l
  | [] => rfl
  | [c] => rfl
  | c :: d :: r => by
    have ih := joinL_one (d :: r)
    simp only [List.map_cons] at ih ⊢
    unfold joinL
    rw [ih]; rfl
theorem strs_map : ∀ l : List Str, toStrs (l.map D.str) = some l
  | [] => rfl
  | x :: r => by simp [toStrs, strs_map r]
theorem join_at (l : List Nat) (hl : l.length < 100) : ∃ one : Str, one.cps.toList = l ∧ fJoin "" (.lst (l.map fun c => D.str ⟨#[c]⟩)) = some (.str one) := by
  have e : (l.map fun c => D.str ⟨#[c]⟩) = (l.map fun c => (⟨#[c]⟩ : Str)).map D.str := by simp
  have hs : ∀ l : List Nat, ((l.map fun c => (⟨#[c]⟩ : Str)).map (·.length)).sum = l.length := fun l => by
    induction l with
    | nil => rfl
    | cons c r ih => simp only [List.map_cons, List.sum_cons, ih, List.length_cons]; show 1 + r.length = _; omega
  refine ⟨Txt.join "" (l.map fun c => ⟨#[c]⟩), ?_, ?_⟩
  · rw [join_eq]
    have q := tl_join "" (l.map fun c => (⟨#[c]⟩ : Str))
    have z : (l.map fun c => (⟨#[c]⟩ : Str)).map tl = l.map fun c => [c] := by simp [tl]
    rw [z] at q
    exact q.trans (joinL_one l)
  · unfold fJoin
    rw [e]
    simp only [strs_map, Option.bind_some]
    rw [if_pos (by
      rw [hs, List.length_map]
      show l.length + l.length * 0 ≤ _
      omega)]
end K29
set_option Elab.async false
set_option linter.all false
set_option maxRecDepth 100000
set_option maxHeartbeats 4000000
namespace K29
open PySem Sm
section
variable {ma mb : Mx D} {sl : List (Option D)} {S : Sto}
theorem e_m1 {f : Str → D → Option D} {a : Str} {y z : D} (ha : ma sl S = .ok (.str a) S) (hb : mb sl S = .ok y S) (hf : f a y = some z) : mM1 f ma mb sl S = .ok z S := by
  simp only [mM1, bindX, ha, hb, hf, ofO]
theorem e_int {v : Int} (ha : ma sl S = .ok (.int v) S) : mCal kInt (mCons ma mNil) sl S = .ok (.int v) S := by
  simp only [mCal, mCons, mNil, bindX, pureX, ha, kInt, ofO]
theorem e_slh {d z : D} {h : Int} (ha : ma sl S = .ok d S) (hb : mb sl S = .ok (.int h) S) (hf : fSl d none (some h) = some z) : mSl ma none (some mb) sl S = .ok z S := by
  have h3 : mPart none sl S = .ok none S := by simp [mPart, pureX]
  have h2 : mPart (some mb) sl S = .ok (some h) S := by simp [mPart, bindX, hb, pureX]
  simp only [mSl, bindX, ha, h3, h2, hf, ofO]
theorem e_sll {d z : D} {h : Int} (ha : ma sl S = .ok d S) (hb : mb sl S = .ok (.int h) S) (hf : fSl d (some h) none = some z) : mSl ma (some mb) none sl S = .ok z S := by
  have h3 : mPart none sl S = .ok none S := by simp [mPart, pureX]
  have h2 : mPart (some mb) sl S = .ok (some h) S := by simp [mPart, bindX, hb, pureX]
  simp only [mSl, bindX, ha, h3, h2, hf, ofO]
theorem e_mod {v j : Int} (ha : ma sl S = .ok (.int v) S) (hb : mb sl S = .ok (.int j) S) (hj : 0 < j) : mOp fMod ma mb sl S = .ok (.int (v % j)) S := e_op ha hb (by show (if 0 < j then some (D.int (v % j)) else none) = _; rw [if_pos hj])
theorem e_add {v j : Int} (ha : ma sl S = .ok (.int v) S) (hb : mb sl S = .ok (.int j) S) : mOp fAdd ma mb sl S = .ok (.int (v + j)) S := e_op ha hb rfl
theorem e_lst3 {mc : Mx D} {a b c : D} (ha : ma sl S = .ok a S) (hb : mb sl S = .ok b S) (hc : mc sl S = .ok c S) : mLst (mCons ma (mCons mb (mCons mc mNil))) sl S = .ok (.lst [a, b, c]) S := by
  simp [mLst, mCons, mNil, bindX, pureX, ha, hb, hc, sz_eq]
end
theorem draw_ix {l : List Int} {n : Nat} {z : Int} (hd : Drw l n z) (k : Nat) (hk : k < n) : ∃ v : Int, 0 ≤ v ∧ fIx (.lst (l.map D.int)) (.int k) = some (.int v) := by
  have hk' : k < l.length := by rw [hd.len]; exact hk
  refine ⟨l[k], (hd.lo _ (List.getElem_mem _)).1, ix_lst (by simp [hk'])⟩
theorem cut_take (l : List Int) (s : Int) (h0 : 0 ≤ s) (h1 : s ≤ l.length) : fSl (.lst (l.map D.int)) none (some s) = some (.lst ((l.take s.toNat).map D.int)) := by
  show some (D.lst (cutD (l.map D.int) none (some s))) = _
  congr 2
  unfold cutD
  have e : HT.sIx (l.map D.int).length (l.map D.int).length (some s) = s.toNat := by
    show (if s < 0 then (s + ((l.map D.int).length : Int)).toNat else min s.toNat (l.map D.int).length) = _
    rw [if_neg (by omega), List.length_map]
    omega
  rw [e]
  show ((l.map D.int).drop 0).take (s.toNat - 0) = _
  rw [List.drop_zero, Nat.sub_zero, List.map_take]
theorem words_at (c : Int) (S : Sto) : ∃ a b d : Str, okw a ∧ okw b ∧ okw d ∧ F__law_words [.int c] S = .ok (W3 a b d) S := by
  obtain ⟨l, hd, hF⟩ := draws_at c 15 10000 (by decide) (by decide) S
  obtain ⟨d12, h12, i12⟩ := draw_ix hd 12 (by decide)
  obtain ⟨d13, h13, i13⟩ := draw_ix hd 13 (by decide)
  obtain ⟨d14, h14, i14⟩ := draw_ix hd 14 (by decide)
  obtain ⟨X, hX⟩ : ∃ X, X = D.lst (l.map D.int) := ⟨_, rfl⟩
  rw [← hX] at hF i12 i13 i14
  obtain ⟨s, hs⟩ : ∃ s, s = 1 + d12 % 12 := ⟨_, rfl⟩
  have hs1 : 1 ≤ s ∧ s ≤ 12 := by omega
  obtain ⟨t, ht⟩ : ∃ t, t = d13 % s := ⟨_, rfl⟩
  have ht1 : 0 ≤ t ∧ t < s := by rw [ht]; exact ⟨Int.emod_nonneg _ (by omega), Int.emod_lt_of_pos _ (by omega)⟩
  have hlen := hd.len
  obtain ⟨one, hone, hjoin⟩ := join_at ((l.take s.toNat).map Lc) (by simp; omega)
  have holen : one.cps.toList.length = s.toNat := by rw [hone]; simp; omega
  have oone : Okl one 12 := ⟨by omega, fun c hc => by
    rw [hone] at hc
    obtain ⟨d, _, rfl⟩ := List.mem_map.mp hc
    exact Ls_ok.lo _ (Lc_mem d)⟩
  have s1 : mPut (tName 1) (mC (.str "abcdefghijklmnopqrstuvwxyz")) [some (.int c), none, none, none, none, none, none, none, none] S = .next [some (.int c), some (.str Ls), none, none, none, none, none, none, none] S := e_put rfl
  have s2 : mPut (tName 2) (mCall F__law_draws (mCons (mVar 0) (mCons (mC (.int 15)) (mCons (mOp fPow (mC (.int 10)) (mC (.int 4))) mNil)))) [some (.int c), some (.str Ls), none, none, none, none, none, none, none] S = .next [some (.int c), some (.str Ls), some X, none, none, none, none, none, none] S := e_put (e_call3 rfl rfl (e_op rfl rfl p4) hF)
  have s3 : mPut (tName 3) (mOp fAdd (mC (.int 1)) (mOp fMod (mCal kInt (mCons (mOp fIx (mVar 2) (mC (.int 12))) mNil)) (mC (.int 12)))) [some (.int c), some (.str Ls), some X, none, none, none, none, none, none] S = .next [some (.int c), some (.str Ls), some X, some (.int s), none, none, none, none, none] S := by
    rw [hs]; exact e_put (e_add rfl (e_mod (e_int (e_op rfl rfl i12)) rfl (by decide)))
  have s4 : mPut (tName 4) (mOp fMod (mCal kInt (mCons (mOp fIx (mVar 2) (mC (.int 13))) mNil)) (mVar 3)) [some (.int c), some (.str Ls), some X, some (.int s), none, none, none, none, none] S = .next [some (.int c), some (.str Ls), some X, some (.int s), some (.int t), none, none, none, none] S := by
    rw [ht]; exact e_put (e_mod (e_int (e_op rfl rfl i13)) rfl (by omega))
  have hlc : mLc (mSeq (mSl (mVar 2) none (some (mVar 3)))) (tName 8) mYes CE0_law_words [8] [some (.int c), some (.str Ls), some X, some (.int s), some (.int t), none, none, none, none] S = .ok (.lst (((l.take s.toNat).map Lc).map fun c => D.str ⟨#[c]⟩)) S := by
    have src : mSeq (mSl (mVar 2) none (some (mVar 3))) [some (.int c), some (.str Ls), some X, some (.int s), some (.int t), none, none, none, none] S = .ok ((l.take s.toNat).map D.int) S := by
      have q : mSl (mVar 2) none (some (mVar 3)) [some (.int c), some (.str Ls), some X, some (.int s), some (.int t), none, none, none, none] S = .ok (.lst ((l.take s.toNat).map D.int)) S := e_slh rfl rfl (by rw [hX]; exact cut_take l s (by omega) (by omega))
      simp only [mSeq, bindX, q, itD, ofO]
    have q := e_lc (t := tName 8) (tt := mYes) (el := CE0_law_words) (vs := [8]) (fun d => match d with | .int v => some (.str ⟨#[Lc v]⟩) | _ => none) src (by simp; omega) (fun d hd => by
      obtain ⟨v, _, rfl⟩ := List.mem_map.mp hd
      exact ⟨[some (.int c), some (.str Ls), some X, some (.int s), some (.int t), none, none, none, some (.int v)], rfl, .inr ⟨_, rfl, rfl, e_op rfl (e_mod (e_int rfl) rfl (by decide)) (Ls_at v)⟩⟩)
    rw [q]
    congr 2
    have : ∀ k : List Int, (k.map D.int).filterMap (fun d => match d with | .int v => some (D.str ⟨#[Lc v]⟩) | _ => none) = (k.map Lc).map fun c => D.str ⟨#[c]⟩ := fun k => by
      induction k with
      | nil => rfl
      | cons v r ih => simp at ih ⊢; exact ih
    exact this _
  have s5 : mPut (tName 5) (mM1 fJoin (mC (.str "")) (mLc (mSeq (mSl (mVar 2) none (some (mVar 3)))) (tName 8) mYes CE0_law_words [8])) [some (.int c), some (.str Ls), some X, some (.int s), some (.int t), none, none, none, none] S = .next [some (.int c), some (.str Ls), some X, some (.int s), some (.int t), some (.str one), none, none, none] S := e_put (e_m1 rfl hlc hjoin)
  have hall : ∀ c ∈ one.cps.toList, c ∈ Ls.cps.toList := fun c hc => by
    rw [hone] at hc
    obtain ⟨d, _, rfl⟩ := List.mem_map.mp hc
    exact Lc_mem d
  obtain ⟨ch, hch, hchm⟩ : ∃ ch, fIx (.str one) (.int t) = some (.str ⟨#[ch]⟩) ∧ ch ∈ Ls.cps.toList := by
    refine ⟨_, ix_str oone (by decide) ht1.1 (by rw [holen]; omega), ?_⟩
    have hk : t.toNat < one.cps.toList.length := by rw [holen]; omega
    rw [List.getD_eq_getElem?_getD, List.getElem?_eq_getElem hk]
    exact hall _ (List.getElem_mem hk)
  obtain ⟨ix, hix⟩ : ∃ ix : Int, fIndex Ls (.str ⟨#[ch]⟩) = some (.int ix) := by
    have q := Ls_ix ch hchm
    unfold fIndex
    cases e : Builtin.Str.occurrences Ls ⟨#[ch]⟩ 0 Ls.length 1 with
    | nil => rw [e] at q; cases q
    | cons i r =>
      refine ⟨(i : Nat), ?_⟩
      show (match Builtin.Str.occurrences Ls ⟨#[ch]⟩ 0 Ls.length 1 with | i :: _ => some (D.int (i : Nat)) | [] => none) = _
      rw [e]
  obtain ⟨pl, hpl⟩ : ∃ pl, pl = (ix + 1 + d14 % 25) % 26 := ⟨_, rfl⟩
  have s6 : mPut (tName 6) (mOp fMod (mCal kInt (mCons (mOp fAdd (mOp fAdd (mM1 fIndex (mVar 1) (mOp fIx (mVar 5) (mVar 4))) (mC (.int 1))) (mOp fMod (mCal kInt (mCons (mOp fIx (mVar 2) (mC (.int 14))) mNil)) (mC (.int 25)))) mNil)) (mC (.int 26))) [some (.int c), some (.str Ls), some X, some (.int s), some (.int t), some (.str one), none, none, none] S = .next [some (.int c), some (.str Ls), some X, some (.int s), some (.int t), some (.str one), some (.int pl), none, none] S := by
    rw [hpl]
    exact e_put (e_mod (e_int (e_add (e_add (e_m1 rfl (e_op rfl rfl hch) hix) rfl) (e_mod (e_int (e_op rfl rfl i14)) rfl (by decide)))) rfl (by decide))
  have hpl2 : fIx (.str Ls) (.int pl) = some (.str ⟨#[Lc (ix + 1 + d14 % 25)]⟩) := by rw [hpl]; exact Ls_at _
  have oc := one_ok (Lc_mem (ix + 1 + d14 % 25))
  have u1 := cut_str oone (by decide) none (some t)
  have o1 := oone.cut none (some t)
  have u2 := add_str o1 oc (by decide)
  have o2 := o1.app oc
  have u3 := cut_str oone (by decide) (some (t + 1)) none
  have o3 := oone.cut (some (t + 1)) none
  have u4 := add_str o2 o3 (by decide)
  have o4 := o2.app o3
  obtain ⟨two, h2, otwo⟩ : ∃ two : Str, (∀ S : Sto, mOp fAdd (mOp fAdd (mSl (mVar 5) none (some (mVar 4))) (mOp fIx (mVar 1) (mVar 6))) (mSl (mVar 5) (some (mOp fAdd (mVar 4) (mC (.int 1)))) none) [some (.int c), some (.str Ls), some X, some (.int s), some (.int t), some (.str one), some (.int pl), none, none] S = .ok (.str two) S) ∧ okw two :=
    ⟨_, fun S => e_op (e_op (e_slh rfl rfl u1) (e_op rfl rfl hpl2) u2) (e_sll rfl (e_add rfl rfl) u3) u4, o4.w⟩
  have s7 : mPut (tName 7) (mOp fAdd (mOp fAdd (mSl (mVar 5) none (some (mVar 4))) (mOp fIx (mVar 1) (mVar 6))) (mSl (mVar 5) (some (mOp fAdd (mVar 4) (mC (.int 1)))) none)) [some (.int c), some (.str Ls), some X, some (.int s), some (.int t), some (.str one), some (.int pl), none, none] S = .next [some (.int c), some (.str Ls), some X, some (.int s), some (.int t), some (.str one), some (.int pl), some (.str two), none] S := e_put (h2 S)
  have okq : Okl "q" 1 := ⟨by decide +kernel, by decide +kernel⟩
  by_cases h1 : s = 1
  · have u5 := add_str oone okq (by decide)
    exact ⟨one, two, _, oone.w, otwo, (oone.app okq).w, e_fn (e_sq s1 (e_sq s2 (e_sq s3 (e_sq s4 (e_sq s5 (e_sq s6 (e_sq s7 (e_sqr (e_ift (S' := S) (by simp [mTst, mOp, mVar, mC, bindX, q_int, ofO, asBl, h1]) (e_ret (e_lst3 rfl rfl (e_op rfl rfl u5))))))))))))⟩
  · have u5 := cut_str oone (by decide) none (some (-1))
    exact ⟨one, two, _, oone.w, otwo, (oone.cut none (some (-1))).w, e_fn (e_sq s1 (e_sq s2 (e_sq s3 (e_sq s4 (e_sq s5 (e_sq s6 (e_sq s7 (e_sq (e_iff (S' := S) (by simp [mTst, mOp, mVar, mC, bindX, q_int, ofO, asBl, h1]) e_skip) (e_ret (e_lst3 rfl rfl (e_slh rfl (by simp [mUn, mC, bindX, fNeg, ofO]) u5)))))))))))⟩
end K29
set_option Elab.async false
set_option linter.all false
set_option maxRecDepth 100000
set_option maxHeartbeats 4000000
namespace K29
open PySem Sm
def Good (f : Int) (l : List Ev) : Prop := ∀ n, 0 ≤ bal f (l.take n)
theorem good_all {f : Int} {l : List Ev} (h : Good f l) : 0 ≤ bal f l := by have := h l.length; rwa [List.take_length] at this
theorem good_app {f : Int} {l : List Ev} {e : Ev} (h : Good f l) (he : 0 ≤ bal f (l ++ [e])) : Good f (l ++ [e]) := fun n => by
  by_cases hn : n ≤ l.length
  · rw [List.take_append_of_le_length hn]; exact h n
  · rw [List.take_of_length_le (by simp; omega)]; exact he
theorem good_drop {f : Int} {l : List Ev} (h : Good f l) : Good f l.dropLast := fun n => by
  rw [List.dropLast_eq_take, List.take_take]; exact h _
theorem good_behind {f : Int} {l : List Ev} (h : Good f l) (de : De) : Good f (behind l (due f l de) de) := by
  cases de with
  | pay n b m p =>
    by_cases hp : bal f l < p
    · have e : due f l (.pay n b m p) = .noCoins p (bal f l) := by simp [due, hp]
      rw [e]; exact h
    · have e : due f l (.pay n b m p) = .ok0 := by simp [due, hp]
      rw [e]
      exact good_app h (by rw [bal_app]; show 0 ≤ bal f l - p; omega)
  | inn a =>
    by_cases hp : a < 1 ∨ 1000000000 < a ∨ 1000000000000 < bal f l + a
    · have e : due f l (.inn a) = .badCoins a := by simp only [due]; rw [if_pos hp]
      rw [e]; exact h
    · have e : due f l (.inn a) = .ok0 := by simp only [due]; rw [if_neg hp]
      rw [e]
      have := good_all h
      exact good_app h (by rw [bal_app]; show 0 ≤ bal f l + a; omega)
  | back => rw [behind_back]; exact good_drop h
theorem behind_len (f : Int) (l : List Ev) (de : De) : (behind l (due f l de) de).length ≤ l.length + 1 := by
  cases de with
  | pay n b m p => simp only [behind]; split <;> simp
  | inn a => simp only [behind]; split <;> simp
  | back => rw [behind_back, List.length_dropLast]; omega
theorem behind_ok {f : Int} {l : List Ev} {de : De} (h : ∀ e ∈ l, e.okS) (hd : de.ok) : ∀ e ∈ behind l (due f l de) de, e.okS := by
  cases de with
  | pay n b m p =>
    simp only [behind]
    split
    · intro e he
      rcases List.mem_append.mp he with q | q
      · exact h e q
      · simp at q; subst q; exact hd
    · exact h
  | inn a =>
    simp only [behind]
    split
    · intro e he
      rcases List.mem_append.mp he with q | q
      · exact h e q
      · simp at q; subst q; trivial
    · exact h
  | back => rw [behind_back]; exact fun e he => h e (List.dropLast_subset _ he)
/-- both ledgers stand as the events say -/
structure Two (fs : List Int) (ls : List (List Ev)) (T : Sto) (k : Nat) : Prop where
  nf : fs.length = 2
  nl : ls.length = 2
  led : ∀ (i : Nat) (f : Int) (l : List Ev), fs[i]? = some f → ls[i]? = some l → Led T i f l ∧ Good f l
  sz : ∀ l ∈ ls, l.length ≤ k ∧ ∀ e ∈ l, e.okS
def rf : D := .lst [.ref 0, .ref 1]
theorem Two.at {fs : List Int} {ls : List (List Ev)} {T : Sto} {k : Nat} (h : Two fs ls T k) (i : Nat) (hi : i < 2) : ∃ f l, fs[i]? = some f ∧ ls[i]? = some l ∧ fIx (.lst (fs.map D.int)) (.int i) = some (.int f) ∧ fIx (.lst (ls.map evs)) (.int i) = some (evs l) ∧ fIx rf (.int i) = some (.ref i) ∧ Led T i f l ∧ Good f l ∧ l.length ≤ k ∧ ∀ e ∈ l, e.okS := by
  have h1 : i < fs.length := by rw [h.nf]; exact hi
  have h2 : i < ls.length := by rw [h.nl]; exact hi
  have e1 : fs[i]? = some fs[i] := by simp [h1]
  have e2 : ls[i]? = some ls[i] := by simp [h2]
  obtain ⟨q1, q2⟩ := h.led i _ _ e1 e2
  obtain ⟨q3, q4⟩ := h.sz _ (List.getElem_mem h2)
  refine ⟨_, _, e1, e2, ix_lst (by rw [List.getElem?_map, e1]; rfl), ix_lst (by rw [List.getElem?_map, e2]; rfl), ix_lst ?_, q1, q2, q3, q4⟩
  have : i = 0 ∨ i = 1 := by omega
  rcases this with rfl | rfl <;> rfl
theorem tells_loop {fs : List Int} {ls : List (List Ev)} {T : Sto} {k : Nat} (h : Two fs ls T k) (hk : k < 90) (a b c : Str) (x0 x5 x6 x7 o8 x9 x10 x11 x12 x13 : Option D) :
    ∃ o8', mFor (mRng kRng1 (mCons (mC (.int 2)) mNil)) (tName 8) L0_law [x0, some (W3 a b c), some (.lst (fs.map D.int)), some rf, some (.lst (ls.map evs)), x5, x6, x7, o8, x9, x10, x11, x12, x13] T = .next [x0, some (W3 a b c), some (.lst (fs.map D.int)), some rf, some (.lst (ls.map evs)), x5, x6, x7, o8', x9, x10, x11, x12, x13] T := by
  obtain ⟨sl', S', h1, o, rfl, rfl⟩ := loop_ind (t := tName 8) (mb := L0_law) (P := fun _ sl U => ∃ o, sl = [x0, some (W3 a b c), some (.lst (fs.map D.int)), some rf, some (.lst (ls.map evs)), x5, x6, x7, o, x9, x10, x11, x12, x13] ∧ U = T) (rng 0 2) 0 [x0, some (W3 a b c), some (.lst (fs.map D.int)), some rf, some (.lst (ls.map evs)), x5, x6, x7, o8, x9, x10, x11, x12, x13] T ⟨o8, rfl, rfl⟩ (fun i d sl U hi hp => by
    obtain ⟨o, rfl, rfl⟩ := hp
    obtain ⟨hin, rfl⟩ := rng_at hi
    obtain ⟨f, l, _, _, e1, e2, e3, hL, _, hz, _⟩ := h.at i hin
    exact ⟨[x0, some (W3 a b c), some (.lst (fs.map D.int)), some rf, some (.lst (ls.map evs)), x5, x6, x7, some (.int i), x9, x10, x11, x12, x13], _, _, rfl, e_iff (S' := U) (e_nott (e_call4 (e_op rfl rfl e3) (e_op rfl rfl e1) (e_op rfl rfl e2) rfl (tells_at hL (by omega) a b c))) e_skip, _, rfl, rfl⟩)
  exact ⟨o, e_for (e_rng (n := 2) (S' := S') rfl (by decide) (by decide)) h1⟩
theorem two_set {fs : List Int} {ls : List (List Ev)} {T : Sto} {k w : Nat} {f : Int} {l l' : List Ev} (h : Two fs ls T k) (hf : fs[w]? = some f) (hl : ls[w]? = some l) (hL : Led T w f l) (hg : Good f l') (hn : l'.length ≤ k + 1) (hk : ∀ e ∈ l', e.okS) : Two fs (ls.set w l') (T.set w (lob f l')) (k + 1) := by
  refine ⟨h.nf, by rw [List.length_set]; exact h.nl, fun i f2 l2 q1 q2 => ?_, fun l2 hm => ?_⟩
  · by_cases z : w = i
    · subst z
      rw [hf] at q1
      cases q1
      rw [List.getElem?_set_self (List.getElem?_eq_some_iff.mp hl).1] at q2
      cases q2
      exact ⟨led_set hL, hg⟩
    · rw [List.getElem?_set_ne z] at q2
      obtain ⟨r1, r2⟩ := h.led i f2 l2 q1 q2
      refine ⟨?_, r2⟩
      unfold Led at r1 ⊢
      rw [List.getElem?_set_ne z]; exact r1
  · rcases List.mem_or_eq_of_mem_set hm with q | rfl
    · obtain ⟨r1, r2⟩ := h.sz l2 q
      exact ⟨by omega, r2⟩
    · exact ⟨hn, hk⟩
theorem big_turn {fs : List Int} {ls : List (List Ev)} {T : Sto} {k : Nat} (h : Two fs ls T k) (hk : k < 50) (ns : List Int) (hns : ns.length ≤ 63) (a b c : Str) (ha : okw a) (hb : okw b) (hc : okw c) (de0 : De) (hd0 : de0.ok) (x5 o8 o9 o10 o11 o12 o13 : Option D) :
    ∃ ls' T' de o8' o10' o11' o12' o13', L1_law [some (.lst (ns.map D.int)), some (W3 a b c), some (.lst (fs.map D.int)), some rf, some (.lst (ls.map evs)), x5, some de0.d, some (.int k), o8, o9, o10, o11, o12, o13] T =
      .next [some (.lst (ns.map D.int)), some (W3 a b c), some (.lst (fs.map D.int)), some rf, some (.lst (ls'.map evs)), x5, some (De.d de), some (.int k), o8', o9, o10', o11', o12', o13'] T' ∧ Two fs ls' T' (k + 1) ∧ De.ok de := by
  obtain ⟨v, hv⟩ := cell_at ns (4 + k) (by omega) hns T
  obtain ⟨dl, hdl, hF⟩ := draws_at (v + k) 6 10000000000000 (by decide) (by decide) T
  obtain ⟨d0, h00, i0⟩ := draw_ix hdl 0 (by decide)
  obtain ⟨d3, h33, i3⟩ := draw_ix hdl 3 (by decide)
  obtain ⟨w, hw, hw2⟩ : ∃ w : Nat, (w : Int) = d0 % 2 ∧ w < 2 := ⟨(d0 % 2).toNat, by omega, by omega⟩
  obtain ⟨f, l, ef, el, e1, e2, e3, hL, hg, hz, hok⟩ := h.at w hw2
  obtain ⟨de1, hd1, hde⟩ := deed_at dl hdl a b c ha hb hc (bal f l) (good_all hg) T
  obtain ⟨X, hX⟩ : ∃ X, X = D.lst (dl.map D.int) := ⟨_, rfl⟩
  rw [← hX] at hF i0 i3 hde
  obtain ⟨N0, hN0⟩ : ∃ x, x = some (D.lst (ns.map D.int)) := ⟨_, rfl⟩
  have s1 : mPut (tName 10) (mCall F__law_draws (mCons (mOp fAdd (mCall F__law_cell (mCons (mVar 0) (mCons (mOp fAdd (mC (.int 4)) (mVar 7)) mNil))) (mVar 7)) (mCons (mC (.int 6)) (mCons (mOp fPow (mC (.int 10)) (mC (.int 13))) mNil)))) [some (.lst (ns.map D.int)), some (W3 a b c), some (.lst (fs.map D.int)), some rf, some (.lst (ls.map evs)), x5, some de0.d, some (.int k), o8, o9, o10, o11, o12, o13] T = .next [some (.lst (ns.map D.int)), some (W3 a b c), some (.lst (fs.map D.int)), some rf, some (.lst (ls.map evs)), x5, some de0.d, some (.int k), o8, o9, some X, o11, o12, o13] T :=
    e_put (e_call3 (e_add (e_call2 rfl (e_add rfl rfl) hv) rfl) rfl (e_op rfl rfl p13) hF)
  have s2 : mPut (tName 11) (mOp fMod (mCal kInt (mCons (mOp fIx (mVar 10) (mC (.int 0))) mNil)) (mC (.int 2))) [some (.lst (ns.map D.int)), some (W3 a b c), some (.lst (fs.map D.int)), some rf, some (.lst (ls.map evs)), x5, some de0.d, some (.int k), o8, o9, some X, o11, o12, o13] T = .next [some (.lst (ns.map D.int)), some (W3 a b c), some (.lst (fs.map D.int)), some rf, some (.lst (ls.map evs)), x5, some de0.d, some (.int k), o8, o9, some X, some (.int w), o12, o13] T := by
    rw [hw]; exact e_put (e_mod (e_int (e_op rfl rfl i0)) rfl (by decide))
  have s3 : mPut (tName 12) (mCall F__law_deed (mCons (mVar 10) (mCons (mVar 1) (mCons (mCall F__law_balance (mCons (mOp fIx (mVar 2) (mVar 11)) (mCons (mOp fIx (mVar 4) (mVar 11)) mNil))) mNil)))) [some (.lst (ns.map D.int)), some (W3 a b c), some (.lst (fs.map D.int)), some rf, some (.lst (ls.map evs)), x5, some de0.d, some (.int k), o8, o9, some X, some (.int w), o12, o13] T = .next [some (.lst (ns.map D.int)), some (W3 a b c), some (.lst (fs.map D.int)), some rf, some (.lst (ls.map evs)), x5, some de0.d, some (.int k), o8, o9, some X, some (.int w), some de1.d, o13] T :=
    e_put (e_call3 rfl rfl (e_call2 (e_op rfl rfl e1) (e_op rfl rfl e2) (balance_at f l T)) hde)
  obtain ⟨de, hdok, s4⟩ : ∃ de : De, de.ok ∧ mIf (mTst (mOp fEq (mOp fMod (mCal kInt (mCons (mOp fIx (mVar 10) (mC (.int 3))) mNil)) (mC (.int 5))) (mC (.int 0)))) (mPut (tName 12) (mVar 6)) mSkip [some (.lst (ns.map D.int)), some (W3 a b c), some (.lst (fs.map D.int)), some rf, some (.lst (ls.map evs)), x5, some de0.d, some (.int k), o8, o9, some X, some (.int w), some de1.d, o13] T = .next [some (.lst (ns.map D.int)), some (W3 a b c), some (.lst (fs.map D.int)), some rf, some (.lst (ls.map evs)), x5, some de0.d, some (.int k), o8, o9, some X, some (.int w), some de.d, o13] T := by
    have z : mOp fMod (mCal kInt (mCons (mOp fIx (mVar 10) (mC (.int 3))) mNil)) (mC (.int 5)) [some (.lst (ns.map D.int)), some (W3 a b c), some (.lst (fs.map D.int)), some rf, some (.lst (ls.map evs)), x5, some de0.d, some (.int k), o8, o9, some X, some (.int w), some de1.d, o13] T = .ok (.int (d3 % 5)) T := e_mod (e_int (e_op rfl rfl i3)) rfl (by decide)
    by_cases q : d3 % 5 = 0
    · exact ⟨de0, hd0, e_ift (S' := T) (by simp [mTst, bindX, e_op z (show mC (.int 0) _ T = .ok (.int 0) T from rfl) (q_int _ _), asBl, ofO, q]) (e_put rfl)⟩
    · exact ⟨de1, hd1, e_iff (S' := T) (by simp [mTst, bindX, e_op z (show mC (.int 0) _ T = .ok (.int 0) T from rfl) (q_int _ _), asBl, ofO, q]) e_skip⟩
  have s5 : mPut (tName 6) (mVar 12) [some (.lst (ns.map D.int)), some (W3 a b c), some (.lst (fs.map D.int)), some rf, some (.lst (ls.map evs)), x5, some de0.d, some (.int k), o8, o9, some X, some (.int w), some de.d, o13] T = .next [some (.lst (ns.map D.int)), some (W3 a b c), some (.lst (fs.map D.int)), some rf, some (.lst (ls.map evs)), x5, some de.d, some (.int k), o8, o9, some X, some (.int w), some de.d, o13] T := e_put rfl
  have s6 : mPut (tName 13) (mCall F__law_due (mCons (mVar 12) (mCons (mOp fIx (mVar 2) (mVar 11)) (mCons (mOp fIx (mVar 4) (mVar 11)) mNil)))) [some (.lst (ns.map D.int)), some (W3 a b c), some (.lst (fs.map D.int)), some rf, some (.lst (ls.map evs)), x5, some de.d, some (.int k), o8, o9, some X, some (.int w), some de.d, o13] T = .next [some (.lst (ns.map D.int)), some (W3 a b c), some (.lst (fs.map D.int)), some rf, some (.lst (ls.map evs)), x5, some de.d, some (.int k), o8, o9, some X, some (.int w), some de.d, some (due f l de).d] T := e_put (e_call3 rfl (e_op rfl rfl e1) (e_op rfl rfl e2) (due_at f l de hok T))
  obtain ⟨T', hT'⟩ : ∃ T', T' = T.set w (lob f (behind l (due f l de) de)) := ⟨_, rfl⟩
  have ha7 : ∀ nm : Bool, F__law_ask [.ref w, de.d, .bl nm] T = .ok (due f l de).d T' := fun nm => by rw [hT']; exact ask_at hL (by omega) de nm
  have s7 : mNotT (mTru (mCall (F__law_same 6) (mCons (mCall F__law_ask (mCons (mOp fIx (mVar 3) (mVar 11)) (mCons (mVar 12) (mCons (mOp fEq (mOp fMod (mVar 7) (mC (.int 3))) (mC (.int 1))) mNil)))) (mCons (mVar 13) mNil)))) [some (.lst (ns.map D.int)), some (W3 a b c), some (.lst (fs.map D.int)), some rf, some (.lst (ls.map evs)), x5, some de.d, some (.int k), o8, o9, some X, some (.int w), some de.d, some (due f l de).d] T = .ok false T' :=
    e_nott (e_callS (e_call3 (e_op rfl rfl e3) rfl (e_op (e_mod rfl rfl (by decide)) rfl (q_int _ _)) (ha7 _)) rfl (same_at 6 _ _ (due_okd _)))
  have hbe := behind_at l f de (by omega) T'
  have s8 := e_setix (i := 4) (j := w) (mi := mVar 11) (me := mCall F__law_behind (mCons (mVar 12) (mCons (mVar 13) (mCons (mOp fIx (mVar 4) (mVar 11)) mNil)))) (sl := [some (.lst (ns.map D.int)), some (W3 a b c), some (.lst (fs.map D.int)), some rf, some (.lst (ls.map evs)), x5, some de.d, some (.int k), o8, o9, some X, some (.int w), some de.d, some (due f l de).d]) (S := T') (z := w) (xs := ls.map evs) (y := evs (behind l (due f l de) de)) rfl (e_call3 rfl rfl (e_op rfl rfl e2) hbe) rfl (by unfold L2.ixN; rw [if_pos (by omega), if_pos (by rw [List.length_map, h.nl]; omega)]; rfl)
  have hset : (ls.map evs).set w (evs (behind l (due f l de) de)) = (ls.set w (behind l (due f l de) de)).map evs := by rw [List.map_set]
  rw [hset] at s8
  have h2 : Two fs (ls.set w (behind l (due f l de) de)) T' (k + 1) := by
    rw [hT']
    exact two_set h ef el hL (good_behind hg de) (Nat.le_trans (behind_len f l de) (by omega)) (behind_ok hok hdok)
  obtain ⟨o8', s9⟩ := tells_loop h2 (by omega) a b c (some (.lst (ns.map D.int))) x5 (some de.d) (some (.int k)) o8 o9 (some X) (some (.int w)) (some de.d) (some (due f l de).d)
  exact ⟨_, T', de, _, _, _, _, _, e_sq s1 (e_sq s2 (e_sq s3 (e_sq s4 (e_sq s5 (e_sq s6 (e_sq (e_iff s7 e_skip) (e_sq s8 s9))))))), h2, hdok⟩
end K29
set_option Elab.async false
set_option linter.all false
set_option maxRecDepth 100000
set_option maxHeartbeats 4000000
namespace K29
open PySem Sm
theorem e_call1 {F : Fn} {ma : Mx D} {a r : D} {sl : List (Option D)} {S S1 S2 : Sto} (ha : ma sl S = .ok a S1) (h : F [a] S1 = .ok r S2) : mCall F (mCons ma mNil) sl S = .ok r S2 := by
  simp only [mCall, mCons, mNil, bindX, pureX, ha, h]
theorem e_lst2 {ma mb : Mx D} {a b : D} {sl : List (Option D)} {S S1 S2 : Sto} (ha : ma sl S = .ok a S1) (hb : mb sl S1 = .ok b S2) : mLst (mCons ma (mCons mb mNil)) sl S = .ok (.lst [a, b]) S2 := by
  simp [mLst, mCons, mNil, bindX, pureX, ha, hb, sz_eq]
theorem e_and {a b : Mx D} {r : D} {sl : List (Option D)} {S S1 S2 : Sto} (ha : a sl S = .ok (.bl true) S1) (hb : b sl S1 = .ok r S2) : mAnd a b sl S = .ok r S2 := by
  simp only [mAnd, bindX, ha, truth, ofO, if_true]; exact hb
theorem e_neg1 {sl : List (Option D)} {S : Sto} : mUn fNeg (mC (.int 1)) sl S = .ok (.int (-1)) S := by simp [mUn, mC, bindX, fNeg, ofO]
theorem sub_int (i j : Int) : fSub (.int i) (.int j) = some (.int (i - j)) := rfl
theorem ends_at {fs : List Int} {ls : List (List Ev)} {T : Sto} {k : Nat} (h : Two fs ls T k) (hk : k < 15) (a b c : Str) (x0 x5 x6 x7 o8 x9 x10 x11 x12 x13 : Option D) :
    ∃ o8' T', mFor (mRng kRng1 (mCons (mC (.int 2)) mNil)) (tName 8) L2_law [x0, some (W3 a b c), some (.lst (fs.map D.int)), some rf, some (.lst (ls.map evs)), x5, x6, x7, o8, x9, x10, x11, x12, x13] T = .next [x0, some (W3 a b c), some (.lst (fs.map D.int)), some rf, some (.lst (ls.map evs)), x5, x6, x7, o8', x9, x10, x11, x12, x13] T' := by
  obtain ⟨sl', S', h1, ⟨o, rfl⟩, _⟩ := loop_ind (t := tName 8) (mb := L2_law) (P := fun i sl U => (∃ o, sl = [x0, some (W3 a b c), some (.lst (fs.map D.int)), some rf, some (.lst (ls.map evs)), x5, x6, x7, o, x9, x10, x11, x12, x13]) ∧ ∀ j : Nat, i ≤ j → U[j]? = T[j]?) (rng 0 2) 0 [x0, some (W3 a b c), some (.lst (fs.map D.int)), some rf, some (.lst (ls.map evs)), x5, x6, x7, o8, x9, x10, x11, x12, x13] T ⟨⟨o8, rfl⟩, fun _ _ => rfl⟩ (fun i d sl U hi hp => by
    rw [Nat.zero_add] at hp ⊢
    obtain ⟨⟨o, rfl⟩, hU⟩ := hp
    obtain ⟨hin, rfl⟩ := rng_at hi
    obtain ⟨f, l, _, _, e1, e2, e3, hL, _, hz, hok⟩ := h.at i hin
    have hL2 : Led U i f l := by unfold Led at hL ⊢; rw [hU i (Nat.le_refl _)]; exact hL
    obtain ⟨U2, q1, q2⟩ := back_all hL2 (by omega) hok a b c
    refine ⟨[x0, some (W3 a b c), some (.lst (fs.map D.int)), some rf, some (.lst (ls.map evs)), x5, x6, x7, some (.int i), x9, x10, x11, x12, x13], _, U2, rfl, e_iff (S' := U2) (e_nott (e_call4 (e_op rfl rfl e3) (e_op rfl rfl e1) (e_op rfl rfl e2) rfl q1)) e_skip, ⟨_, rfl⟩, fun j hj => ?_⟩
    rw [q2 j (by omega)]
    exact hU j (by omega))
  exact ⟨o, S', e_for (e_rng (n := 2) (S' := T) rfl (by decide) (by decide)) h1⟩
theorem law_true : ∀ ns : List Int, ns.length ≤ 63 → ∃ S', F_law [.lst (ns.map D.int)] [] = .ok (.bl true) S' := fun ns hns => by
  obtain ⟨v0, c0⟩ := cell_at ns 0 (by decide) hns []
  obtain ⟨v1, c1⟩ := cell_at ns 1 (by decide) hns []
  obtain ⟨v2, c2⟩ := cell_at ns 2 (by decide) hns []
  obtain ⟨a, b, c, ha, hb, hc, hW⟩ := words_at v0 []
  obtain ⟨f0, g00, g01, hf0⟩ := first_at v1 []
  obtain ⟨f1, g10, g11, hf1⟩ := first_at (v2 + 1) []
  obtain ⟨T0, hT0⟩ : ∃ T0 : Sto, T0 = [lob f0 [], lob f1 []] := ⟨_, rfl⟩
  obtain ⟨v3, c3⟩ := cell_at ns 3 (by decide) hns T0
  obtain ⟨dl, hdl, hF⟩ := draws_at v3 2 10000000000000 (by decide) (by decide) T0
  obtain ⟨p0, p00, i0⟩ := draw_ix hdl 0 (by decide)
  obtain ⟨p1, p10, i1⟩ := draw_ix hdl 1 (by decide)
  obtain ⟨X, hX⟩ : ∃ X, X = D.lst (dl.map D.int) := ⟨_, rfl⟩
  rw [← hX] at hF i0 i1
  have s1 : mPut (tName 1) (mCall F__law_words (mCons (mCall F__law_cell (mCons (mVar 0) (mCons (mC (.int 0)) mNil))) mNil)) [some (.lst (ns.map D.int)), none, none, none, none, none, none, none, none, none, none, none, none, none] [] = .next [some (.lst (ns.map D.int)), some (W3 a b c), none, none, none, none, none, none, none, none, none, none, none, none] [] := e_put (e_call1 (e_call2 rfl rfl c0) hW)
  have s2 : mPut (tName 2) (mLst (mCons (mCall F__law_first (mCons (mCall F__law_cell (mCons (mVar 0) (mCons (mC (.int 1)) mNil))) mNil)) (mCons (mCall F__law_first (mCons (mOp fAdd (mCall F__law_cell (mCons (mVar 0) (mCons (mC (.int 2)) mNil))) (mC (.int 1))) mNil)) mNil))) [some (.lst (ns.map D.int)), some (W3 a b c), none, none, none, none, none, none, none, none, none, none, none, none] [] = .next [some (.lst (ns.map D.int)), some (W3 a b c), some (.lst (([f0, f1] : List Int).map D.int)), none, none, none, none, none, none, none, none, none, none, none] [] := e_put (e_lst2 (e_call1 (e_call2 rfl rfl c1) hf0) (e_call1 (e_add (e_call2 rfl rfl c2) rfl) hf1))
  have m1 : mMk 5 2 F_Ledger_init (mCons (mOp fIx (mVar 2) (mC (.int 0))) mNil) [some (.lst (ns.map D.int)), some (W3 a b c), some (.lst (([f0, f1] : List Int).map D.int)), none, none, none, none, none, none, none, none, none, none, none] [] = .ok (.ref 0) [lob f0 []] := mk_ok (by simp [mFn, mSq, mSkip, mPut, tName, mOwn, mDo, mRet, mIf, bindS, mC, mVar, mOp, mUn, bindX, pureX, ofO, mCons, mNil, mTup, mLst, mCal, mTst, mTru, mAndT, mOrT, mNotT, mAnd, mOr, mNot, truth, asBl, a_int, fSub, fMul, fMod, p4, p9, p12, p13, p18, fLt, fLe, fGt, fGe, q_str, q_int, n_str, n_int, n_bl, sne1, sne2, sne3, sne4, sne5, sne6, x_tup, x_lst, fNeg, fIs, isD, fIsi, isi, kInt, kLen, kMin2, kMax2, mCall, sz_eq, L2.atI, L2.ixN]) g00 g01
  have m2 : mMk 5 2 F_Ledger_init (mPerm 1 [0] (mCons (mOp fIx (mVar 2) (mC (.int 1))) mNil)) [some (.lst (ns.map D.int)), some (W3 a b c), some (.lst (([f0, f1] : List Int).map D.int)), none, none, none, none, none, none, none, none, none, none, none] [lob f0 []] = .ok (.ref 1) T0 := by
    rw [hT0]; exact mk_ok (S := [lob f0 []]) (by simp [mFn, mSq, mSkip, mPut, tName, mOwn, mDo, mRet, mIf, bindS, mC, mVar, mOp, mUn, bindX, pureX, ofO, mCons, mNil, mTup, mLst, mCal, mTst, mTru, mAndT, mOrT, mNotT, mAnd, mOr, mNot, truth, asBl, a_int, fSub, fMul, fMod, p4, p9, p12, p13, p18, fLt, fLe, fGt, fGe, q_str, q_int, n_str, n_int, n_bl, sne1, sne2, sne3, sne4, sne5, sne6, x_tup, x_lst, fNeg, fIs, isD, fIsi, isi, kInt, kLen, kMin2, kMax2, mCall, sz_eq, L2.atI, L2.ixN, mPerm, permD]) g10 g11
  have s3 : mPut (tName 3) (mLst (mCons (mMk 5 2 F_Ledger_init (mCons (mOp fIx (mVar 2) (mC (.int 0))) mNil)) (mCons (mMk 5 2 F_Ledger_init (mPerm 1 [0] (mCons (mOp fIx (mVar 2) (mC (.int 1))) mNil))) mNil))) [some (.lst (ns.map D.int)), some (W3 a b c), some (.lst (([f0, f1] : List Int).map D.int)), none, none, none, none, none, none, none, none, none, none, none] [] = .next [some (.lst (ns.map D.int)), some (W3 a b c), some (.lst (([f0, f1] : List Int).map D.int)), some rf, none, none, none, none, none, none, none, none, none, none] T0 := e_put (e_lst2 m1 m2)
  have s4 : mOwn 4 (mLst (mCons (mLst mNil) (mCons (mLst mNil) mNil))) [some (.lst (ns.map D.int)), some (W3 a b c), some (.lst (([f0, f1] : List Int).map D.int)), some rf, none, none, none, none, none, none, none, none, none, none] T0 = .next [some (.lst (ns.map D.int)), some (W3 a b c), some (.lst (([f0, f1] : List Int).map D.int)), some rf, some (.lst (([[], []] : List (List Ev)).map evs)), none, none, none, none, none, none, none, none, none] T0 := e_own (e_lst2 e_lst0 e_lst0)
  have s5 : mPut (tName 5) (mCall F__law_draws (mCons (mCall F__law_cell (mCons (mVar 0) (mCons (mC (.int 3)) mNil))) (mCons (mC (.int 2)) (mCons (mOp fPow (mC (.int 10)) (mC (.int 13))) mNil)))) [some (.lst (ns.map D.int)), some (W3 a b c), some (.lst (([f0, f1] : List Int).map D.int)), some rf, some (.lst (([[], []] : List (List Ev)).map evs)), none, none, none, none, none, none, none, none, none] T0 = .next [some (.lst (ns.map D.int)), some (W3 a b c), some (.lst (([f0, f1] : List Int).map D.int)), some rf, some (.lst (([[], []] : List (List Ev)).map evs)), some X, none, none, none, none, none, none, none, none] T0 := e_put (e_call3 (e_call2 rfl rfl c3) rfl (e_op rfl rfl p13) hF)
  have s6 : mPut (tName 6) (mTup (mCons (mC (.str "take_back")) (mCons (mC (.int 0)) mNil))) [some (.lst (ns.map D.int)), some (W3 a b c), some (.lst (([f0, f1] : List Int).map D.int)), some rf, some (.lst (([[], []] : List (List Ev)).map evs)), some X, none, none, none, none, none, none, none, none] T0 = .next [some (.lst (ns.map D.int)), some (W3 a b c), some (.lst (([f0, f1] : List Int).map D.int)), some rf, some (.lst (([[], []] : List (List Ev)).map evs)), some X, some De.back.d, none, none, none, none, none, none, none] T0 := e_put (e_tup2 rfl rfl)
  have hp15 : 0 ≤ p0 % 15 ∧ p0 % 15 < 15 := by omega
  have two0 : Two [f0, f1] [[], []] T0 0 := by
    refine ⟨rfl, rfl, fun i f l q1 q2 => ?_, fun l hm => ?_⟩
    · have hi : i < 2 := (List.getElem?_eq_some_iff.mp q1).1
      have : i = 0 ∨ i = 1 := by omega
      rcases this with rfl | rfl
      · cases q1; cases q2
        exact ⟨by rw [hT0]; rfl, fun n => by simp [bal]; exact g00⟩
      · cases q1; cases q2
        exact ⟨by rw [hT0]; rfl, fun n => by simp [bal]; exact g10⟩
    · simp at hm; subst hm; exact ⟨Nat.le_refl _, by simp⟩
  obtain ⟨sl', S', h7, ls, de, o7, o8, o10, o11, o12, o13, rfl, two, _⟩ := loop_ind (t := tName 7) (mb := L1_law) (P := fun i sl T => ∃ (ls : List (List Ev)) (de : De) (o7 o8 o10 o11 o12 o13 : Option D), sl = [some (.lst (ns.map D.int)), some (W3 a b c), some (.lst (([f0, f1] : List Int).map D.int)), some rf, some (.lst (ls.map evs)), some X, some de.d, o7, o8, none, o10, o11, o12, o13] ∧ Two [f0, f1] ls T i ∧ de.ok)
    (rng 0 (p0 % 15).toNat) 0 [some (.lst (ns.map D.int)), some (W3 a b c), some (.lst (([f0, f1] : List Int).map D.int)), some rf, some (.lst (([[], []] : List (List Ev)).map evs)), some X, some De.back.d, none, none, none, none, none, none, none] T0 ⟨[[], []], .back, none, none, none, none, none, none, rfl, two0, trivial⟩ (fun i d sl T hi hp => by
      rw [Nat.zero_add] at hp ⊢
      obtain ⟨ls, de, o7, o8, o10, o11, o12, o13, rfl, two, hde⟩ := hp
      obtain ⟨hin, rfl⟩ := rng_at hi
      obtain ⟨ls', T', de', o8', o10', o11', o12', o13', q1, q2, q3⟩ := big_turn two (by omega) ns hns a b c ha hb hc de hde (some X) o8 none o10 o11 o12 o13
      exact ⟨_, _, T', rfl, q1, ls', de', _, o8', o10', o11', o12', o13', rfl, q2, q3⟩)
  rw [Nat.zero_add, rng_len] at two
  have s7 : mFor (mRng kRng1 (mCons (mOp fMod (mCal kInt (mCons (mOp fIx (mVar 5) (mC (.int 0))) mNil)) (mC (.int 15))) mNil)) (tName 7) L1_law [some (.lst (ns.map D.int)), some (W3 a b c), some (.lst (([f0, f1] : List Int).map D.int)), some rf, some (.lst (([[], []] : List (List Ev)).map evs)), some X, some De.back.d, none, none, none, none, none, none, none] T0 = _ := e_for (e_rng (n := p0 % 15) (S' := T0) (e_mod (e_int (e_op rfl rfl i0)) rfl (by decide)) hp15.1 (by omega)) h7
  obtain ⟨o8', T', s8⟩ := ends_at two (by omega) a b c (some (.lst (ns.map D.int))) (some X) (some de.d) o7 o8 none o10 o11 o12 o13
  have s9 : mPut (tName 9) (mCal kInt (mCons (mOp fIx (mVar 5) (mC (.int 1))) mNil)) [some (.lst (ns.map D.int)), some (W3 a b c), some (.lst (([f0, f1] : List Int).map D.int)), some rf, some (.lst (ls.map evs)), some X, some de.d, o7, o8', none, o10, o11, o12, o13] T' = .next [some (.lst (ns.map D.int)), some (W3 a b c), some (.lst (([f0, f1] : List Int).map D.int)), some rf, some (.lst (ls.map evs)), some X, some de.d, o7, o8', some (.int p1), o10, o11, o12, o13] T' := e_put (e_int (e_op rfl rfl i1))
  obtain ⟨T1, r1⟩ := refuses_at (-1 - p1 % 1000000000000) (.inl (by omega)) T'
  obtain ⟨T2, r2⟩ := refuses_at (1000000000000 + 1 + p1 % 1000000000000) (.inr (by omega)) T1
  obtain ⟨T3, r3⟩ := refuses_at (-1) (.inl (by decide)) T2
  obtain ⟨T4, r4⟩ := refuses_at (1000000000000 + 1) (.inr (by decide)) T3
  exact ⟨T4, e_fn (e_sq s1 (e_sq s2 (e_sq s3 (e_sq s4 (e_sq s5 (e_sq s6 (e_sq s7 (e_sq s8 (e_sq s9 (e_sq (e_iff (e_or0 (e_nott (e_call1 (e_op e_neg1 (e_mod rfl (e_op rfl rfl p12) (by decide)) (sub_int _ _)) r1)) (e_nott (e_call1 (e_add (e_add (e_op rfl rfl p12) rfl) (e_mod rfl (e_op rfl rfl p12) (by decide))) r2))) e_skip) (e_ret (e_and (e_call1 e_neg1 r3) (e_call1 (e_add (e_op rfl rfl p12) rfl) r4)))))))))))))⟩
end K29
set_option Elab.async false
set_option linter.all false
set_option maxRecDepth 100000
set_option maxHeartbeats 4000000
namespace K29
open PySem PySem.Spec PyProof.Rows L2 Sm
def adr (l : List Addr) (i : Nat) : Addr := l.getD i 0
theorem all_mk {P : Program} {K : PySem.W.Frag} {h : Heap} {mg : Str → Option Value} {C0 C1 C2 C3 C4 C5 f_5_init f_5_balance f_5_pay f_5_pay_in f_5_take_back f_5_payments f_5_spent f__law_mixed f__law_draws f__law_words f__law_cell f__law_first f__law_deed f__law_balance f__law_due f__law_behind f__law_is_integer f__law_same f__law_refuses f__law_tells f__law_ask f__law_taken_back f_law f_x2 cda_x2 cc_x2 N_x2 f_x3 cda_x3 cc_x3 N_x3 : Addr} {od_5_init an_5_init od_5_balance an_5_balance od_5_pay an_5_pay od_5_pay_in an_5_pay_in od_5_take_back an_5_take_back od_5_payments an_5_payments od_5_spent an_5_spent od__law_mixed an__law_mixed od__law_draws an__law_draws od__law_words an__law_words od__law_cell an__law_cell od__law_first an__law_first od__law_deed an__law_deed od__law_balance an__law_balance od__law_due an__law_due od__law_behind an__law_behind od__law_is_integer an__law_is_integer od__law_same an__law_same od__law_refuses an__law_refuses od__law_tells an__law_tells od__law_ask an__law_ask od__law_taken_back an__law_taken_back od_law an_law od_x2 an_x2 cdd_x2 cld_x2 od_x3 an_x3 cdd_x3 cld_x3 : Option Addr} {sl_5_init sl_5_balance sl_5_pay sl_5_pay_in sl_5_take_back sl_5_payments sl_5_spent sl__law_mixed sl__law_draws sl__law_words sl__law_cell sl__law_first sl__law_deed sl__law_balance sl__law_due sl__law_behind sl__law_is_integer sl__law_same sl__law_refuses sl__law_tells sl__law_ask sl__law_taken_back sl_law sl_x2 ccs_x2 csl_x2 sl_x3 ccs_x3 csl_x3 : Array (Option Value)} {oc_5_init kV_5_init dc_5_init pm_5_init cd_5_init ct_5_init oc_5_balance kV_5_balance dc_5_balance pm_5_balance cd_5_balance ct_5_balance oc_5_pay kV_5_pay dc_5_pay pm_5_pay cd_5_pay ct_5_pay oc_5_pay_in kV_5_pay_in dc_5_pay_in pm_5_pay_in cd_5_pay_in ct_5_pay_in oc_5_take_back kV_5_take_back dc_5_take_back pm_5_take_back cd_5_take_back ct_5_take_back oc_5_payments kV_5_payments dc_5_payments pm_5_payments cd_5_payments ct_5_payments oc_5_spent kV_5_spent dc_5_spent pm_5_spent cd_5_spent ct_5_spent oc__law_mixed kV__law_mixed dc__law_mixed pm__law_mixed cd__law_mixed ct__law_mixed oc__law_draws kV__law_draws dc__law_draws pm__law_draws cd__law_draws ct__law_draws oc__law_words kV__law_words dc__law_words pm__law_words cd__law_words ct__law_words oc__law_cell kV__law_cell dc__law_cell pm__law_cell cd__law_cell ct__law_cell oc__law_first kV__law_first dc__law_first pm__law_first cd__law_first ct__law_first oc__law_deed kV__law_deed dc__law_deed pm__law_deed cd__law_deed ct__law_deed oc__law_balance kV__law_balance dc__law_balance pm__law_balance cd__law_balance ct__law_balance oc__law_due kV__law_due dc__law_due pm__law_due cd__law_due ct__law_due oc__law_behind kV__law_behind dc__law_behind pm__law_behind cd__law_behind ct__law_behind oc__law_is_integer kV__law_is_integer dc__law_is_integer pm__law_is_integer cd__law_is_integer ct__law_is_integer oc__law_same kV__law_same dc__law_same pm__law_same cd__law_same ct__law_same oc__law_refuses kV__law_refuses dc__law_refuses pm__law_refuses cd__law_refuses ct__law_refuses oc__law_tells kV__law_tells dc__law_tells pm__law_tells cd__law_tells ct__law_tells oc__law_ask kV__law_ask dc__law_ask pm__law_ask cd__law_ask ct__law_ask oc__law_taken_back kV__law_taken_back dc__law_taken_back pm__law_taken_back cd__law_taken_back ct__law_taken_back oc_law kV_law dc_law pm_law cd_law ct_law oc_x2 dc_x2 pm_x2 ct_x2 ccl_x2 ccv_x2 oc_x3 dc_x3 pm_x3 ct_x3 ccl_x3 ccv_x3 : Value} {vs_x2 vs_x3 : Array Value} {nm_x2 qn_x2 : Str} {bs_x2 sub_x2 : List Value} {sn_x2 : List Str} {ab_x2 : Bool} {col_x2 : Option Bool} {dd_x2 : Option Addr} {m0_x2 m1_x2 m2_x2 m3_x2 m5_x2 : Option Value} {fl_x2 : Str} {tf_x2 : Tok} {nm_x3 qn_x3 : Str} {bs_x3 sub_x3 : List Value} {sn_x3 : List Str} {ab_x3 : Bool} {col_x3 : Option Bool} {dd_x3 : Option Addr} {m0_x3 m1_x3 m2_x3 m3_x3 m5_x3 : Option Value} {fl_x3 : Str} {tf_x3 : Tok}
    (X : K.In h) (G : h.Ns mainGlobals mg) (hfile : (P.main.scope.names.lookup ("super" : Str)).isSome = false) (g_MOST_COINS : ∃ u, mg "MOST_COINS" = some u ∧ RelV (.int 1000000000000) u) (g_MOST_PAID_IN : ∃ u, mg "MOST_PAID_IN" = some u ∧ RelV (.int 1000000000) u)
    (aC0 : PySem.W.nsIn K mainGlobals "MootError" = some (some (.ref C0)))
    (aC1 : PySem.W.nsIn K mainGlobals "NothingToUndo" = some (some (.ref C1)))
    (aC2 : PySem.W.nsIn K mainGlobals "BadCoins" = some (some (.ref C2)))
    (aC3 : PySem.W.nsIn K mainGlobals "NoCoins" = some (some (.ref C3)))
    (aC4 : PySem.W.nsIn K mainGlobals "BadLine" = some (some (.ref C4)))
    (aC5 : PySem.W.nsIn K mainGlobals "Ledger" = some (some (.ref C5)))
    (pg5 : PySem.W.plainGet K C5 Str.empty = true)
    (hd5 : PySem.W.hasDictIn K C5 = true)
    (po5 : PySem.W.plainOver K C5 = true)
    (sa5 : PySem.W.findIn K (.ref C5) "__setattr__" = some (some (.builtin "object.__setattr__")))
    (mk5 : PySem.W.makesIn K C5 = true)
    (kp5 : PySem.W.keepIn K (.ref C5) = true)
    (na5_0 : PySem.W.findIn K (.ref C5) "_coins" = some none)
    (na5_1 : PySem.W.findIn K (.ref C5) "_written" = some none)
    (a_5_init : PySem.W.findIn K (.ref C5) "__init__" = some (some (.ref f_5_init)))
    (i_5_init : PySem.W.isFn K (.ref f_5_init) = true)
    (l_5_init : K.lookup f_5_init = some ⟨oc_5_init, od_5_init, .func (PySem.W.fnOf "__init__" "Ledger.__init__" (defArgs s_Ledger_init) (defBody s_Ledger_init) (defScope s_Ledger_init) .none kV_5_init dc_5_init pm_5_init an_5_init cd_5_init ct_5_init), sl_5_init⟩)
    (q_5_init : PySem.W.codeIn K cd_5_init "Ledger.__init__" = true)
    (k_5_init : PySem.W.keepIn K (.ref f_5_init) = true)
    (a_5_balance : PySem.W.findIn K (.ref C5) "balance" = some (some (.ref f_5_balance)))
    (i_5_balance : PySem.W.isFn K (.ref f_5_balance) = true)
    (l_5_balance : K.lookup f_5_balance = some ⟨oc_5_balance, od_5_balance, .func (PySem.W.fnOf "balance" "Ledger.balance" (defArgs s_Ledger_balance) (defBody s_Ledger_balance) (defScope s_Ledger_balance) .none kV_5_balance dc_5_balance pm_5_balance an_5_balance cd_5_balance ct_5_balance), sl_5_balance⟩)
    (q_5_balance : PySem.W.codeIn K cd_5_balance "Ledger.balance" = true)
    (k_5_balance : PySem.W.keepIn K (.ref f_5_balance) = true)
    (a_5_pay : PySem.W.findIn K (.ref C5) "pay" = some (some (.ref f_5_pay)))
    (i_5_pay : PySem.W.isFn K (.ref f_5_pay) = true)
    (l_5_pay : K.lookup f_5_pay = some ⟨oc_5_pay, od_5_pay, .func (PySem.W.fnOf "pay" "Ledger.pay" (defArgs s_Ledger_pay) (defBody s_Ledger_pay) (defScope s_Ledger_pay) .none kV_5_pay dc_5_pay pm_5_pay an_5_pay cd_5_pay ct_5_pay), sl_5_pay⟩)
    (q_5_pay : PySem.W.codeIn K cd_5_pay "Ledger.pay" = true)
    (k_5_pay : PySem.W.keepIn K (.ref f_5_pay) = true)
    (a_5_pay_in : PySem.W.findIn K (.ref C5) "pay_in" = some (some (.ref f_5_pay_in)))
    (i_5_pay_in : PySem.W.isFn K (.ref f_5_pay_in) = true)
    (l_5_pay_in : K.lookup f_5_pay_in = some ⟨oc_5_pay_in, od_5_pay_in, .func (PySem.W.fnOf "pay_in" "Ledger.pay_in" (defArgs s_Ledger_pay_in) (defBody s_Ledger_pay_in) (defScope s_Ledger_pay_in) .none kV_5_pay_in dc_5_pay_in pm_5_pay_in an_5_pay_in cd_5_pay_in ct_5_pay_in), sl_5_pay_in⟩)
    (q_5_pay_in : PySem.W.codeIn K cd_5_pay_in "Ledger.pay_in" = true)
    (k_5_pay_in : PySem.W.keepIn K (.ref f_5_pay_in) = true)
    (a_5_take_back : PySem.W.findIn K (.ref C5) "take_back" = some (some (.ref f_5_take_back)))
    (i_5_take_back : PySem.W.isFn K (.ref f_5_take_back) = true)
    (l_5_take_back : K.lookup f_5_take_back = some ⟨oc_5_take_back, od_5_take_back, .func (PySem.W.fnOf "take_back" "Ledger.take_back" (defArgs s_Ledger_take_back) (defBody s_Ledger_take_back) (defScope s_Ledger_take_back) .none kV_5_take_back dc_5_take_back pm_5_take_back an_5_take_back cd_5_take_back ct_5_take_back), sl_5_take_back⟩)
    (q_5_take_back : PySem.W.codeIn K cd_5_take_back "Ledger.take_back" = true)
    (k_5_take_back : PySem.W.keepIn K (.ref f_5_take_back) = true)
    (a_5_payments : PySem.W.findIn K (.ref C5) "payments" = some (some (.ref f_5_payments)))
    (i_5_payments : PySem.W.isFn K (.ref f_5_payments) = true)
    (l_5_payments : K.lookup f_5_payments = some ⟨oc_5_payments, od_5_payments, .func (PySem.W.fnOf "payments" "Ledger.payments" (defArgs s_Ledger_payments) (defBody s_Ledger_payments) (defScope s_Ledger_payments) .none kV_5_payments dc_5_payments pm_5_payments an_5_payments cd_5_payments ct_5_payments), sl_5_payments⟩)
    (q_5_payments : PySem.W.codeIn K cd_5_payments "Ledger.payments" = true)
    (k_5_payments : PySem.W.keepIn K (.ref f_5_payments) = true)
    (a_5_spent : PySem.W.findIn K (.ref C5) "spent" = some (some (.ref f_5_spent)))
    (i_5_spent : PySem.W.isFn K (.ref f_5_spent) = true)
    (l_5_spent : K.lookup f_5_spent = some ⟨oc_5_spent, od_5_spent, .func (PySem.W.fnOf "spent" "Ledger.spent" (defArgs s_Ledger_spent) (defBody s_Ledger_spent) (defScope s_Ledger_spent) .none kV_5_spent dc_5_spent pm_5_spent an_5_spent cd_5_spent ct_5_spent), sl_5_spent⟩)
    (q_5_spent : PySem.W.codeIn K cd_5_spent "Ledger.spent" = true)
    (k_5_spent : PySem.W.keepIn K (.ref f_5_spent) = true)
    (a__law_mixed : PySem.W.nsIn K mainGlobals "_law_mixed" = some (some (.ref f__law_mixed)))
    (l__law_mixed : K.lookup f__law_mixed = some ⟨oc__law_mixed, od__law_mixed, .func (PySem.W.fnOf "_law_mixed" "_law_mixed" (defArgs s__law_mixed) (defBody s__law_mixed) (defScope s__law_mixed) .none kV__law_mixed dc__law_mixed pm__law_mixed an__law_mixed cd__law_mixed ct__law_mixed), sl__law_mixed⟩)
    (q__law_mixed : PySem.W.codeIn K cd__law_mixed "_law_mixed" = true)
    (k__law_mixed : PySem.W.keepIn K (.ref f__law_mixed) = true)
    (a__law_draws : PySem.W.nsIn K mainGlobals "_law_draws" = some (some (.ref f__law_draws)))
    (l__law_draws : K.lookup f__law_draws = some ⟨oc__law_draws, od__law_draws, .func (PySem.W.fnOf "_law_draws" "_law_draws" (defArgs s__law_draws) (defBody s__law_draws) (defScope s__law_draws) .none kV__law_draws dc__law_draws pm__law_draws an__law_draws cd__law_draws ct__law_draws), sl__law_draws⟩)
    (q__law_draws : PySem.W.codeIn K cd__law_draws "_law_draws" = true)
    (k__law_draws : PySem.W.keepIn K (.ref f__law_draws) = true)
    (a__law_words : PySem.W.nsIn K mainGlobals "_law_words" = some (some (.ref f__law_words)))
    (l__law_words : K.lookup f__law_words = some ⟨oc__law_words, od__law_words, .func (PySem.W.fnOf "_law_words" "_law_words" (defArgs s__law_words) (defBody s__law_words) (defScope s__law_words) .none kV__law_words dc__law_words pm__law_words an__law_words cd__law_words ct__law_words), sl__law_words⟩)
    (q__law_words : PySem.W.codeIn K cd__law_words "_law_words" = true)
    (k__law_words : PySem.W.keepIn K (.ref f__law_words) = true)
    (a__law_cell : PySem.W.nsIn K mainGlobals "_law_cell" = some (some (.ref f__law_cell)))
    (l__law_cell : K.lookup f__law_cell = some ⟨oc__law_cell, od__law_cell, .func (PySem.W.fnOf "_law_cell" "_law_cell" (defArgs s__law_cell) (defBody s__law_cell) (defScope s__law_cell) .none kV__law_cell dc__law_cell pm__law_cell an__law_cell cd__law_cell ct__law_cell), sl__law_cell⟩)
    (q__law_cell : PySem.W.codeIn K cd__law_cell "_law_cell" = true)
    (k__law_cell : PySem.W.keepIn K (.ref f__law_cell) = true)
    (a__law_first : PySem.W.nsIn K mainGlobals "_law_first" = some (some (.ref f__law_first)))
    (l__law_first : K.lookup f__law_first = some ⟨oc__law_first, od__law_first, .func (PySem.W.fnOf "_law_first" "_law_first" (defArgs s__law_first) (defBody s__law_first) (defScope s__law_first) .none kV__law_first dc__law_first pm__law_first an__law_first cd__law_first ct__law_first), sl__law_first⟩)
    (q__law_first : PySem.W.codeIn K cd__law_first "_law_first" = true)
    (k__law_first : PySem.W.keepIn K (.ref f__law_first) = true)
    (a__law_deed : PySem.W.nsIn K mainGlobals "_law_deed" = some (some (.ref f__law_deed)))
    (l__law_deed : K.lookup f__law_deed = some ⟨oc__law_deed, od__law_deed, .func (PySem.W.fnOf "_law_deed" "_law_deed" (defArgs s__law_deed) (defBody s__law_deed) (defScope s__law_deed) .none kV__law_deed dc__law_deed pm__law_deed an__law_deed cd__law_deed ct__law_deed), sl__law_deed⟩)
    (q__law_deed : PySem.W.codeIn K cd__law_deed "_law_deed" = true)
    (k__law_deed : PySem.W.keepIn K (.ref f__law_deed) = true)
    (a__law_balance : PySem.W.nsIn K mainGlobals "_law_balance" = some (some (.ref f__law_balance)))
    (l__law_balance : K.lookup f__law_balance = some ⟨oc__law_balance, od__law_balance, .func (PySem.W.fnOf "_law_balance" "_law_balance" (defArgs s__law_balance) (defBody s__law_balance) (defScope s__law_balance) .none kV__law_balance dc__law_balance pm__law_balance an__law_balance cd__law_balance ct__law_balance), sl__law_balance⟩)
    (q__law_balance : PySem.W.codeIn K cd__law_balance "_law_balance" = true)
    (k__law_balance : PySem.W.keepIn K (.ref f__law_balance) = true)
    (a__law_due : PySem.W.nsIn K mainGlobals "_law_due" = some (some (.ref f__law_due)))
    (l__law_due : K.lookup f__law_due = some ⟨oc__law_due, od__law_due, .func (PySem.W.fnOf "_law_due" "_law_due" (defArgs s__law_due) (defBody s__law_due) (defScope s__law_due) .none kV__law_due dc__law_due pm__law_due an__law_due cd__law_due ct__law_due), sl__law_due⟩)
    (q__law_due : PySem.W.codeIn K cd__law_due "_law_due" = true)
    (k__law_due : PySem.W.keepIn K (.ref f__law_due) = true)
    (a__law_behind : PySem.W.nsIn K mainGlobals "_law_behind" = some (some (.ref f__law_behind)))
    (l__law_behind : K.lookup f__law_behind = some ⟨oc__law_behind, od__law_behind, .func (PySem.W.fnOf "_law_behind" "_law_behind" (defArgs s__law_behind) (defBody s__law_behind) (defScope s__law_behind) .none kV__law_behind dc__law_behind pm__law_behind an__law_behind cd__law_behind ct__law_behind), sl__law_behind⟩)
    (q__law_behind : PySem.W.codeIn K cd__law_behind "_law_behind" = true)
    (k__law_behind : PySem.W.keepIn K (.ref f__law_behind) = true)
    (a__law_is_integer : PySem.W.nsIn K mainGlobals "_law_is_integer" = some (some (.ref f__law_is_integer)))
    (l__law_is_integer : K.lookup f__law_is_integer = some ⟨oc__law_is_integer, od__law_is_integer, .func (PySem.W.fnOf "_law_is_integer" "_law_is_integer" (defArgs s__law_is_integer) (defBody s__law_is_integer) (defScope s__law_is_integer) .none kV__law_is_integer dc__law_is_integer pm__law_is_integer an__law_is_integer cd__law_is_integer ct__law_is_integer), sl__law_is_integer⟩)
    (q__law_is_integer : PySem.W.codeIn K cd__law_is_integer "_law_is_integer" = true)
    (k__law_is_integer : PySem.W.keepIn K (.ref f__law_is_integer) = true)
    (a__law_same : PySem.W.nsIn K mainGlobals "_law_same" = some (some (.ref f__law_same)))
    (l__law_same : K.lookup f__law_same = some ⟨oc__law_same, od__law_same, .func (PySem.W.fnOf "_law_same" "_law_same" (defArgs s__law_same) (defBody s__law_same) (defScope s__law_same) .none kV__law_same dc__law_same pm__law_same an__law_same cd__law_same ct__law_same), sl__law_same⟩)
    (q__law_same : PySem.W.codeIn K cd__law_same "_law_same" = true)
    (k__law_same : PySem.W.keepIn K (.ref f__law_same) = true)
    (a__law_refuses : PySem.W.nsIn K mainGlobals "_law_refuses" = some (some (.ref f__law_refuses)))
    (l__law_refuses : K.lookup f__law_refuses = some ⟨oc__law_refuses, od__law_refuses, .func (PySem.W.fnOf "_law_refuses" "_law_refuses" (defArgs s__law_refuses) (defBody s__law_refuses) (defScope s__law_refuses) .none kV__law_refuses dc__law_refuses pm__law_refuses an__law_refuses cd__law_refuses ct__law_refuses), sl__law_refuses⟩)
    (q__law_refuses : PySem.W.codeIn K cd__law_refuses "_law_refuses" = true)
    (k__law_refuses : PySem.W.keepIn K (.ref f__law_refuses) = true)
    (a__law_tells : PySem.W.nsIn K mainGlobals "_law_tells" = some (some (.ref f__law_tells)))
    (l__law_tells : K.lookup f__law_tells = some ⟨oc__law_tells, od__law_tells, .func (PySem.W.fnOf "_law_tells" "_law_tells" (defArgs s__law_tells) (defBody s__law_tells) (defScope s__law_tells) .none kV__law_tells dc__law_tells pm__law_tells an__law_tells cd__law_tells ct__law_tells), sl__law_tells⟩)
    (q__law_tells : PySem.W.codeIn K cd__law_tells "_law_tells" = true)
    (k__law_tells : PySem.W.keepIn K (.ref f__law_tells) = true)
    (a__law_ask : PySem.W.nsIn K mainGlobals "_law_ask" = some (some (.ref f__law_ask)))
    (l__law_ask : K.lookup f__law_ask = some ⟨oc__law_ask, od__law_ask, .func (PySem.W.fnOf "_law_ask" "_law_ask" (defArgs s__law_ask) (defBody s__law_ask) (defScope s__law_ask) .none kV__law_ask dc__law_ask pm__law_ask an__law_ask cd__law_ask ct__law_ask), sl__law_ask⟩)
    (q__law_ask : PySem.W.codeIn K cd__law_ask "_law_ask" = true)
    (k__law_ask : PySem.W.keepIn K (.ref f__law_ask) = true)
    (a__law_taken_back : PySem.W.nsIn K mainGlobals "_law_taken_back" = some (some (.ref f__law_taken_back)))
    (l__law_taken_back : K.lookup f__law_taken_back = some ⟨oc__law_taken_back, od__law_taken_back, .func (PySem.W.fnOf "_law_taken_back" "_law_taken_back" (defArgs s__law_taken_back) (defBody s__law_taken_back) (defScope s__law_taken_back) .none kV__law_taken_back dc__law_taken_back pm__law_taken_back an__law_taken_back cd__law_taken_back ct__law_taken_back), sl__law_taken_back⟩)
    (q__law_taken_back : PySem.W.codeIn K cd__law_taken_back "_law_taken_back" = true)
    (k__law_taken_back : PySem.W.keepIn K (.ref f__law_taken_back) = true)
    (a_law : PySem.W.nsIn K mainGlobals "law" = some (some (.ref f_law)))
    (l_law : K.lookup f_law = some ⟨oc_law, od_law, .func (PySem.W.fnOf "law" "law" (defArgs s_law) (defBody s_law) (defScope s_law) .none kV_law dc_law pm_law an_law cd_law ct_law), sl_law⟩)
    (q_law : PySem.W.codeIn K cd_law "law" = true)
    (k_law : PySem.W.keepIn K (.ref f_law) = true)
    (z_ValueError : PySem.W.nsIn K mainGlobals "ValueError" = some none)
    (z_bool : PySem.W.nsIn K mainGlobals "bool" = some none)
    (z_int : PySem.W.nsIn K mainGlobals "int" = some none)
    (z_isinstance : PySem.W.nsIn K mainGlobals "isinstance" = some none)
    (z_len : PySem.W.nsIn K mainGlobals "len" = some none)
    (z_list : PySem.W.nsIn K mainGlobals "list" = some none)
    (z_max : PySem.W.nsIn K mainGlobals "max" = some none)
    (z_min : PySem.W.nsIn K mainGlobals "min" = some none)
    (z_range : PySem.W.nsIn K mainGlobals "range" = some none)
    (z_str : PySem.W.nsIn K mainGlobals "str" = some none)
    (z_sum : PySem.W.nsIn K mainGlobals "sum" = some none)
    (z_tuple : PySem.W.nsIn K mainGlobals "tuple" = some none)
    (opq : PySem.W.nsIn K PySem.cStatics "thirdparty.any" = some none)
    (zsuper : PySem.W.nsIn K mainGlobals "super" = some none)
    (cgn : PySem.W.specialIn K (.builtin "object.__class__") "__get__" = some (some (.builtin "getset_descriptor.__get__")))
    (cgt : PySem.W.takesIn K (.builtin "object.__class__") = some true)
    (rx0 : PySem.W.subIn K (.ref C0) (.type "BaseException") = some true)
    (ty0 : PySem.W.typeIn K (.ref C0) = some (.type "type"))
    (xd0 : PySem.W.hasDictIn K C0 = true)
    (ga0 : PySem.W.findIn K (.ref C0) "__getattribute__" = some (some (.builtin "BaseException.__getattribute__")))
    (gg0 : PySem.W.findIn K (.ref C0) "__getattr__" = some none)
    (xc0 : PySem.W.findIn K (.ref C0) "__class__" = some (some (.builtin "object.__class__")))
    (xm0 : PySem.W.mroIn K C0 (.type "object") = some true)
    (rx1 : PySem.W.subIn K (.ref C1) (.type "BaseException") = some true)
    (ty1 : PySem.W.typeIn K (.ref C1) = some (.type "type"))
    (xd1 : PySem.W.hasDictIn K C1 = true)
    (kx1 : PySem.W.keepIn K (.ref C1) = true)
    (ei1 : PySem.W.excIn K C1 [.type "ValueError", .type "Exception", .type "BaseException", .type "object"] "ValueError.__new__" = true)
    (ga1 : PySem.W.findIn K (.ref C1) "__getattribute__" = some (some (.builtin "BaseException.__getattribute__")))
    (gg1 : PySem.W.findIn K (.ref C1) "__getattr__" = some none)
    (xc1 : PySem.W.findIn K (.ref C1) "__class__" = some (some (.builtin "object.__class__")))
    (xm1 : PySem.W.mroIn K C1 (.type "object") = some true)
    (rx2 : PySem.W.subIn K (.ref C2) (.type "BaseException") = some true)
    (ty2 : PySem.W.typeIn K (.ref C2) = some (.type "type"))
    (xd2 : PySem.W.hasDictIn K C2 = true)
    (kx2 : PySem.W.keepIn K (.ref C2) = true)
    (xL_x2 : K.lookup C2 = some (excClassObj nm_x2 qn_x2 C2 N_x2 bs_x2 [.ref C0, .type "ValueError", .type "Exception", .type "BaseException", .type "object"] true sn_x2 sub_x2 ab_x2 col_x2 dd_x2 m0_x2 m1_x2 m2_x2 m3_x2 m5_x2 "ValueError.__new__"))
    (al_x2 : PySem.W.alongIn K "__init__" [.ref C0, .type "ValueError", .type "Exception", .type "BaseException", .type "object"] = some (some (.builtin "ValueError.__init__")))
    (sx_x2 : PySem.W.findIn K (.ref C2) "__setattr__" = some (some (.builtin "object.__setattr__")))
    (mv_x2 : PySem.W.mroIn K C2 (.type "ValueError") = some true)
    (mc_x2 : PySem.W.mroIn K C2 (.ref C2) = some true)
    (nb_x2_coins : PySem.W.findIn K (.ref C2) "coins" = some none)
    (a_x2 : PySem.W.findIn K (.ref C2) "__init__" = some (some (.ref f_x2)))
    (t_x2 : PySem.W.typeIn K (.ref f_x2) = some (.type "function"))
    (l_x2 : K.lookup f_x2 = some ⟨oc_x2, od_x2, .func (PySem.W.ksFn "__init__" "BadCoins.__init__" (PySem.EsX.arg0 [("coins", ⟨8, 23, 8, 28⟩)] ⟨8, 17, 8, 21⟩) [PySem.EsX.sup "coins out of range" 0 ⟨⟨9, 8, 9, 13⟩, ⟨9, 8, 9, 15⟩, ⟨9, 8, 9, 24⟩, ⟨9, 25, 9, 45⟩, ⟨9, 8, 9, 46⟩, ⟨9, 8, 9, 46⟩⟩ ⟨⟨9, 8, 9, 13⟩, ⟨9, 8, 9, 15⟩, ⟨9, 8, 9, 24⟩, ⟨9, 25, 9, 45⟩, ⟨9, 8, 9, 46⟩, ⟨9, 8, 9, 46⟩⟩, PySem.EsX.asg "coins" ⟨⟨10, 8, 10, 12⟩, ⟨10, 8, 10, 18⟩, ⟨10, 21, 10, 26⟩, ⟨10, 8, 10, 26⟩, ⟨10, 8, 10, 26⟩, ⟨10, 8, 10, 26⟩⟩] (PySem.EsX.scp ["coins"]) .none .none dc_x2 pm_x2 an_x2 (.ref cda_x2) ct_x2 cc_x2), sl_x2⟩)
    (q_x2 : PySem.W.codeIn K (.ref cda_x2) "BadCoins.__init__" = true)
    (u_x2 : K.lookup cda_x2 = some ⟨ccl_x2, cdd_x2, .fields vs_x2, ccs_x2⟩)
    (w_x2 : vs_x2[2]? = some (.str fl_x2 tf_x2))
    (y_x2 : ((P.main.file : Str) == fl_x2) = true)
    (cl_x2 : K.lookup cc_x2 = some ⟨ccv_x2, cld_x2, .cell (some (.ref C2)), csl_x2⟩)
    (ga2 : PySem.W.findIn K (.ref C2) "__getattribute__" = some (some (.builtin "BaseException.__getattribute__")))
    (gg2 : PySem.W.findIn K (.ref C2) "__getattr__" = some none)
    (xc2 : PySem.W.findIn K (.ref C2) "__class__" = some (some (.builtin "object.__class__")))
    (xm2 : PySem.W.mroIn K C2 (.type "object") = some true)
    (nf2_coins : PySem.W.findIn K (.ref C2) "coins" = some none)
    (rx3 : PySem.W.subIn K (.ref C3) (.type "BaseException") = some true)
    (ty3 : PySem.W.typeIn K (.ref C3) = some (.type "type"))
    (xd3 : PySem.W.hasDictIn K C3 = true)
    (kx3 : PySem.W.keepIn K (.ref C3) = true)
    (xL_x3 : K.lookup C3 = some (excClassObj nm_x3 qn_x3 C3 N_x3 bs_x3 [.ref C0, .type "ValueError", .type "Exception", .type "BaseException", .type "object"] true sn_x3 sub_x3 ab_x3 col_x3 dd_x3 m0_x3 m1_x3 m2_x3 m3_x3 m5_x3 "ValueError.__new__"))
    (al_x3 : PySem.W.alongIn K "__init__" [.ref C0, .type "ValueError", .type "Exception", .type "BaseException", .type "object"] = some (some (.builtin "ValueError.__init__")))
    (sx_x3 : PySem.W.findIn K (.ref C3) "__setattr__" = some (some (.builtin "object.__setattr__")))
    (mv_x3 : PySem.W.mroIn K C3 (.type "ValueError") = some true)
    (mc_x3 : PySem.W.mroIn K C3 (.ref C3) = some true)
    (nb_x3_price : PySem.W.findIn K (.ref C3) "price" = some none)
    (nb_x3_coins : PySem.W.findIn K (.ref C3) "coins" = some none)
    (a_x3 : PySem.W.findIn K (.ref C3) "__init__" = some (some (.ref f_x3)))
    (t_x3 : PySem.W.typeIn K (.ref f_x3) = some (.type "function"))
    (l_x3 : K.lookup f_x3 = some ⟨oc_x3, od_x3, .func (PySem.W.ksFn "__init__" "NoCoins.__init__" (PySem.EsX.arg0 [("price", ⟨13, 23, 13, 28⟩), ("coins", ⟨13, 30, 13, 35⟩)] ⟨13, 17, 13, 21⟩) [PySem.EsX.sup "too few coins" 0 ⟨⟨14, 8, 14, 13⟩, ⟨14, 8, 14, 15⟩, ⟨14, 8, 14, 24⟩, ⟨14, 25, 14, 40⟩, ⟨14, 8, 14, 41⟩, ⟨14, 8, 14, 41⟩⟩ ⟨⟨14, 8, 14, 13⟩, ⟨14, 8, 14, 15⟩, ⟨14, 8, 14, 24⟩, ⟨14, 25, 14, 40⟩, ⟨14, 8, 14, 41⟩, ⟨14, 8, 14, 41⟩⟩, PySem.EsX.asg "price" ⟨⟨15, 8, 15, 12⟩, ⟨15, 8, 15, 18⟩, ⟨15, 21, 15, 26⟩, ⟨15, 8, 15, 26⟩, ⟨15, 8, 15, 26⟩, ⟨15, 8, 15, 26⟩⟩, PySem.EsX.asg "coins" ⟨⟨16, 8, 16, 12⟩, ⟨16, 8, 16, 18⟩, ⟨16, 21, 16, 26⟩, ⟨16, 8, 16, 26⟩, ⟨16, 8, 16, 26⟩, ⟨16, 8, 16, 26⟩⟩] (PySem.EsX.scp ["price", "coins"]) .none .none dc_x3 pm_x3 an_x3 (.ref cda_x3) ct_x3 cc_x3), sl_x3⟩)
    (q_x3 : PySem.W.codeIn K (.ref cda_x3) "NoCoins.__init__" = true)
    (u_x3 : K.lookup cda_x3 = some ⟨ccl_x3, cdd_x3, .fields vs_x3, ccs_x3⟩)
    (w_x3 : vs_x3[2]? = some (.str fl_x3 tf_x3))
    (y_x3 : ((P.main.file : Str) == fl_x3) = true)
    (cl_x3 : K.lookup cc_x3 = some ⟨ccv_x3, cld_x3, .cell (some (.ref C3)), csl_x3⟩)
    (ga3 : PySem.W.findIn K (.ref C3) "__getattribute__" = some (some (.builtin "BaseException.__getattribute__")))
    (gg3 : PySem.W.findIn K (.ref C3) "__getattr__" = some none)
    (xc3 : PySem.W.findIn K (.ref C3) "__class__" = some (some (.builtin "object.__class__")))
    (xm3 : PySem.W.mroIn K C3 (.type "object") = some true)
    (nf3_coins : PySem.W.findIn K (.ref C3) "coins" = some none)
    (nf3_price : PySem.W.findIn K (.ref C3) "price" = some none)
    (rx4 : PySem.W.subIn K (.ref C4) (.type "BaseException") = some true)
    (ty4 : PySem.W.typeIn K (.ref C4) = some (.type "type"))
    (xd4 : PySem.W.hasDictIn K C4 = true)
    (ga4 : PySem.W.findIn K (.ref C4) "__getattribute__" = some (some (.builtin "BaseException.__getattribute__")))
    (gg4 : PySem.W.findIn K (.ref C4) "__getattr__" = some none)
    (xc4 : PySem.W.findIn K (.ref C4) "__class__" = some (some (.builtin "object.__class__")))
    (xm4 : PySem.W.mroIn K C4 (.type "object") = some true)
    (sb0_0 : PySem.W.subIn K (.ref C0) (.ref C0) = some true)
    (sb0_1 : PySem.W.subIn K (.ref C0) (.ref C1) = some false)
    (sb0_2 : PySem.W.subIn K (.ref C0) (.ref C2) = some false)
    (sb0_3 : PySem.W.subIn K (.ref C0) (.ref C3) = some false)
    (sb1_0 : PySem.W.subIn K (.ref C1) (.ref C0) = some true)
    (sb1_1 : PySem.W.subIn K (.ref C1) (.ref C1) = some true)
    (sb1_2 : PySem.W.subIn K (.ref C1) (.ref C2) = some false)
    (sb1_3 : PySem.W.subIn K (.ref C1) (.ref C3) = some false)
    (sb2_0 : PySem.W.subIn K (.ref C2) (.ref C0) = some true)
    (sb2_1 : PySem.W.subIn K (.ref C2) (.ref C1) = some false)
    (sb2_2 : PySem.W.subIn K (.ref C2) (.ref C2) = some true)
    (sb2_3 : PySem.W.subIn K (.ref C2) (.ref C3) = some false)
    (sb3_0 : PySem.W.subIn K (.ref C3) (.ref C0) = some true)
    (sb3_1 : PySem.W.subIn K (.ref C3) (.ref C1) = some false)
    (sb3_2 : PySem.W.subIn K (.ref C3) (.ref C2) = some false)
    (sb3_3 : PySem.W.subIn K (.ref C3) (.ref C3) = some true)
    (sb4_0 : PySem.W.subIn K (.ref C4) (.ref C0) = some true)
    (sb4_1 : PySem.W.subIn K (.ref C4) (.ref C1) = some false)
    (sb4_2 : PySem.W.subIn K (.ref C4) (.ref C2) = some false)
    (sb4_3 : PySem.W.subIn K (.ref C4) (.ref C3) = some false)
    (is0_BadCoins : PySem.W.kitOne K (.ref C0) (.ref C2) = some false)
    (is0_BadLine : PySem.W.kitOne K (.ref C0) (.ref C4) = some false)
    (is0_NoCoins : PySem.W.kitOne K (.ref C0) (.ref C3) = some false)
    (is0_NothingToUndo : PySem.W.kitOne K (.ref C0) (.ref C1) = some false)
    (is0_ValueError : PySem.W.kitOne K (.ref C0) (.type "ValueError") = some true)
    (is1_BadCoins : PySem.W.kitOne K (.ref C1) (.ref C2) = some false)
    (is1_BadLine : PySem.W.kitOne K (.ref C1) (.ref C4) = some false)
    (is1_NoCoins : PySem.W.kitOne K (.ref C1) (.ref C3) = some false)
    (is1_NothingToUndo : PySem.W.kitOne K (.ref C1) (.ref C1) = some true)
    (is1_ValueError : PySem.W.kitOne K (.ref C1) (.type "ValueError") = some true)
    (is2_BadCoins : PySem.W.kitOne K (.ref C2) (.ref C2) = some true)
    (is2_BadLine : PySem.W.kitOne K (.ref C2) (.ref C4) = some false)
    (is2_NoCoins : PySem.W.kitOne K (.ref C2) (.ref C3) = some false)
    (is2_NothingToUndo : PySem.W.kitOne K (.ref C2) (.ref C1) = some false)
    (is2_ValueError : PySem.W.kitOne K (.ref C2) (.type "ValueError") = some true)
    (is3_BadCoins : PySem.W.kitOne K (.ref C3) (.ref C2) = some false)
    (is3_BadLine : PySem.W.kitOne K (.ref C3) (.ref C4) = some false)
    (is3_NoCoins : PySem.W.kitOne K (.ref C3) (.ref C3) = some true)
    (is3_NothingToUndo : PySem.W.kitOne K (.ref C3) (.ref C1) = some false)
    (is3_ValueError : PySem.W.kitOne K (.ref C3) (.type "ValueError") = some true)
    (is4_BadCoins : PySem.W.kitOne K (.ref C4) (.ref C2) = some false)
    (is4_BadLine : PySem.W.kitOne K (.ref C4) (.ref C4) = some true)
    (is4_NoCoins : PySem.W.kitOne K (.ref C4) (.ref C3) = some false)
    (is4_NothingToUndo : PySem.W.kitOne K (.ref C4) (.ref C1) = some false)
    (is4_ValueError : PySem.W.kitOne K (.ref C4) (.type "ValueError") = some true) :
    Tx P K mg (adr [C0, C1, C2, C3, C4, C5]) where
  c_MootError := PySem.W.mg_of X G aC0
  c_NothingToUndo := PySem.W.mg_of X G aC1
  c_BadCoins := PySem.W.mg_of X G aC2
  c_NoCoins := PySem.W.mg_of X G aC3
  c_BadLine := PySem.W.mg_of X G aC4
  c_Ledger := PySem.W.mg_of X G aC5
  cl_5 := ⟨pg5, hd5, po5, sa5⟩
  mk_5 := mk5
  kp_5 := kp5
  na_5_0 := na5_0
  na_5_1 := na5_1
  m_5_init := ⟨_, _, fun_mk (st := s_Ledger_init) l_5_init q_5_init k_5_init, a_5_init, i_5_init⟩
  m_5_balance := ⟨_, _, fun_mk (st := s_Ledger_balance) l_5_balance q_5_balance k_5_balance, ⟨a_5_balance, i_5_balance, k_5_balance⟩⟩
  m_5_pay := ⟨_, _, fun_mk (st := s_Ledger_pay) l_5_pay q_5_pay k_5_pay, ⟨a_5_pay, i_5_pay, k_5_pay⟩⟩
  m_5_pay_in := ⟨_, _, fun_mk (st := s_Ledger_pay_in) l_5_pay_in q_5_pay_in k_5_pay_in, ⟨a_5_pay_in, i_5_pay_in, k_5_pay_in⟩⟩
  m_5_take_back := ⟨_, _, fun_mk (st := s_Ledger_take_back) l_5_take_back q_5_take_back k_5_take_back, ⟨a_5_take_back, i_5_take_back, k_5_take_back⟩⟩
  m_5_payments := ⟨_, _, fun_mk (st := s_Ledger_payments) l_5_payments q_5_payments k_5_payments, ⟨a_5_payments, i_5_payments, k_5_payments⟩⟩
  m_5_spent := ⟨_, _, fun_mk (st := s_Ledger_spent) l_5_spent q_5_spent k_5_spent, ⟨a_5_spent, i_5_spent, k_5_spent⟩⟩
  f__law_mixed := ⟨_, _, fun_mk (st := s__law_mixed) l__law_mixed q__law_mixed k__law_mixed, PySem.W.mg_of X G a__law_mixed⟩
  f__law_draws := ⟨_, _, fun_mk (st := s__law_draws) l__law_draws q__law_draws k__law_draws, PySem.W.mg_of X G a__law_draws⟩
  f__law_words := ⟨_, _, fun_mk (st := s__law_words) l__law_words q__law_words k__law_words, PySem.W.mg_of X G a__law_words⟩
  f__law_cell := ⟨_, _, fun_mk (st := s__law_cell) l__law_cell q__law_cell k__law_cell, PySem.W.mg_of X G a__law_cell⟩
  f__law_first := ⟨_, _, fun_mk (st := s__law_first) l__law_first q__law_first k__law_first, PySem.W.mg_of X G a__law_first⟩
  f__law_deed := ⟨_, _, fun_mk (st := s__law_deed) l__law_deed q__law_deed k__law_deed, PySem.W.mg_of X G a__law_deed⟩
  f__law_balance := ⟨_, _, fun_mk (st := s__law_balance) l__law_balance q__law_balance k__law_balance, PySem.W.mg_of X G a__law_balance⟩
  f__law_due := ⟨_, _, fun_mk (st := s__law_due) l__law_due q__law_due k__law_due, PySem.W.mg_of X G a__law_due⟩
  f__law_behind := ⟨_, _, fun_mk (st := s__law_behind) l__law_behind q__law_behind k__law_behind, PySem.W.mg_of X G a__law_behind⟩
  f__law_is_integer := ⟨_, _, fun_mk (st := s__law_is_integer) l__law_is_integer q__law_is_integer k__law_is_integer, PySem.W.mg_of X G a__law_is_integer⟩
  f__law_same := ⟨_, _, fun_mk (st := s__law_same) l__law_same q__law_same k__law_same, PySem.W.mg_of X G a__law_same⟩
  f__law_refuses := ⟨_, _, fun_mk (st := s__law_refuses) l__law_refuses q__law_refuses k__law_refuses, PySem.W.mg_of X G a__law_refuses⟩
  f__law_tells := ⟨_, _, fun_mk (st := s__law_tells) l__law_tells q__law_tells k__law_tells, PySem.W.mg_of X G a__law_tells⟩
  f__law_ask := ⟨_, _, fun_mk (st := s__law_ask) l__law_ask q__law_ask k__law_ask, PySem.W.mg_of X G a__law_ask⟩
  f__law_taken_back := ⟨_, _, fun_mk (st := s__law_taken_back) l__law_taken_back q__law_taken_back k__law_taken_back, PySem.W.mg_of X G a__law_taken_back⟩
  f_law := ⟨_, _, fun_mk (st := s_law) l_law q_law k_law, PySem.W.mg_of X G a_law⟩
  b_ValueError := PySem.W.mg_none_of X G z_ValueError
  b_bool := PySem.W.mg_none_of X G z_bool
  b_int := PySem.W.mg_none_of X G z_int
  b_isinstance := PySem.W.mg_none_of X G z_isinstance
  b_len := PySem.W.mg_none_of X G z_len
  b_list := PySem.W.mg_none_of X G z_list
  b_max := PySem.W.mg_none_of X G z_max
  b_min := PySem.W.mg_none_of X G z_min
  b_range := PySem.W.mg_none_of X G z_range
  b_str := PySem.W.mg_none_of X G z_str
  b_sum := PySem.W.mg_none_of X G z_sum
  b_tuple := PySem.W.mg_none_of X G z_tuple
  g_MOST_COINS := g_MOST_COINS
  g_MOST_PAID_IN := g_MOST_PAID_IN
  ty_0 := ty0
  ec_0 := ⟨ga0, gg0, rx0, xd0, xc0, cgn, cgt, xm0⟩
  ty_1 := ty1
  kx_1 := kx1
  rx_1 := rx1
  ei_1 := ei1
  ec_1 := ⟨ga1, gg1, rx1, xd1, xc1, cgn, cgt, xm1⟩
  ty_2 := ty2
  kx_2 := kx2
  rx_2 := rx2
  es_2 := ⟨⟨nm_x2, qn_x2, N_x2, bs_x2, _, sn_x2, sub_x2, ab_x2, col_x2, dd_x2, m0_x2, m1_x2, m2_x2, m3_x2, m5_x2, xL_x2, rfl, al_x2⟩, sx_x2, mv_x2, mc_x2, fun f hf => by
      simp only [List.mem_cons, List.not_mem_nil, or_false] at hf
      rcases hf with rfl
      · exact nb_x2_coins, opq, PySem.W.mg_none_of X G zsuper, hfile,
      ⟨f_x2, cc_x2, cda_x2, oc_x2, ccl_x2, ccv_x2, dc_x2, pm_x2, ct_x2, od_x2, an_x2, cdd_x2, cld_x2, sl_x2, ccs_x2, csl_x2, "BadCoins.__init__", "coins out of range", 0, [⟨8, 23, 8, 28⟩], ⟨8, 17, 8, 21⟩, ⟨⟨9, 8, 9, 13⟩, ⟨9, 8, 9, 15⟩, ⟨9, 8, 9, 24⟩, ⟨9, 25, 9, 45⟩, ⟨9, 8, 9, 46⟩, ⟨9, 8, 9, 46⟩⟩, ⟨⟨9, 8, 9, 13⟩, ⟨9, 8, 9, 15⟩, ⟨9, 8, 9, 24⟩, ⟨9, 25, 9, 45⟩, ⟨9, 8, 9, 46⟩, ⟨9, 8, 9, 46⟩⟩, [⟨⟨10, 8, 10, 12⟩, ⟨10, 8, 10, 18⟩, ⟨10, 21, 10, 26⟩, ⟨10, 8, 10, 26⟩, ⟨10, 8, 10, 26⟩, ⟨10, 8, 10, 26⟩⟩], vs_x2, fl_x2, tf_x2, a_x2, t_x2, rfl, rfl, l_x2, q_x2, u_x2, w_x2, y_x2, cl_x2, fun L => ⟨_, rfl⟩⟩⟩
  ec_2 := ⟨ga2, gg2, rx2, xd2, xc2, cgn, cgt, xm2⟩
  xf_2 := ⟨ga2, gg2, rx2, xd2⟩
  nf_2_coins := nf2_coins
  ty_3 := ty3
  kx_3 := kx3
  rx_3 := rx3
  es_3 := ⟨⟨nm_x3, qn_x3, N_x3, bs_x3, _, sn_x3, sub_x3, ab_x3, col_x3, dd_x3, m0_x3, m1_x3, m2_x3, m3_x3, m5_x3, xL_x3, rfl, al_x3⟩, sx_x3, mv_x3, mc_x3, fun f hf => by
      simp only [List.mem_cons, List.not_mem_nil, or_false] at hf
      rcases hf with rfl | rfl
      · exact nb_x3_price
      · exact nb_x3_coins, opq, PySem.W.mg_none_of X G zsuper, hfile,
      ⟨f_x3, cc_x3, cda_x3, oc_x3, ccl_x3, ccv_x3, dc_x3, pm_x3, ct_x3, od_x3, an_x3, cdd_x3, cld_x3, sl_x3, ccs_x3, csl_x3, "NoCoins.__init__", "too few coins", 0, [⟨13, 23, 13, 28⟩, ⟨13, 30, 13, 35⟩], ⟨13, 17, 13, 21⟩, ⟨⟨14, 8, 14, 13⟩, ⟨14, 8, 14, 15⟩, ⟨14, 8, 14, 24⟩, ⟨14, 25, 14, 40⟩, ⟨14, 8, 14, 41⟩, ⟨14, 8, 14, 41⟩⟩, ⟨⟨14, 8, 14, 13⟩, ⟨14, 8, 14, 15⟩, ⟨14, 8, 14, 24⟩, ⟨14, 25, 14, 40⟩, ⟨14, 8, 14, 41⟩, ⟨14, 8, 14, 41⟩⟩, [⟨⟨15, 8, 15, 12⟩, ⟨15, 8, 15, 18⟩, ⟨15, 21, 15, 26⟩, ⟨15, 8, 15, 26⟩, ⟨15, 8, 15, 26⟩, ⟨15, 8, 15, 26⟩⟩, ⟨⟨16, 8, 16, 12⟩, ⟨16, 8, 16, 18⟩, ⟨16, 21, 16, 26⟩, ⟨16, 8, 16, 26⟩, ⟨16, 8, 16, 26⟩, ⟨16, 8, 16, 26⟩⟩], vs_x3, fl_x3, tf_x3, a_x3, t_x3, rfl, rfl, l_x3, q_x3, u_x3, w_x3, y_x3, cl_x3, fun L => ⟨_, rfl⟩⟩⟩
  ec_3 := ⟨ga3, gg3, rx3, xd3, xc3, cgn, cgt, xm3⟩
  xf_3 := ⟨ga3, gg3, rx3, xd3⟩
  nf_3_coins := nf3_coins
  nf_3_price := nf3_price
  ty_4 := ty4
  ec_4 := ⟨ga4, gg4, rx4, xd4, xc4, cgn, cgt, xm4⟩
  sb_0_0 := sb0_0
  sb_0_1 := sb0_1
  sb_0_2 := sb0_2
  sb_0_3 := sb0_3
  sb_1_0 := sb1_0
  sb_1_1 := sb1_1
  sb_1_2 := sb1_2
  sb_1_3 := sb1_3
  sb_2_0 := sb2_0
  sb_2_1 := sb2_1
  sb_2_2 := sb2_2
  sb_2_3 := sb2_3
  sb_3_0 := sb3_0
  sb_3_1 := sb3_1
  sb_3_2 := sb3_2
  sb_3_3 := sb3_3
  sb_4_0 := sb4_0
  sb_4_1 := sb4_1
  sb_4_2 := sb4_2
  sb_4_3 := sb4_3
  is_0_BadCoins := is0_BadCoins
  is_0_BadLine := is0_BadLine
  is_0_NoCoins := is0_NoCoins
  is_0_NothingToUndo := is0_NothingToUndo
  is_0_ValueError := is0_ValueError
  is_1_BadCoins := is1_BadCoins
  is_1_BadLine := is1_BadLine
  is_1_NoCoins := is1_NoCoins
  is_1_NothingToUndo := is1_NothingToUndo
  is_1_ValueError := is1_ValueError
  is_2_BadCoins := is2_BadCoins
  is_2_BadLine := is2_BadLine
  is_2_NoCoins := is2_NoCoins
  is_2_NothingToUndo := is2_NothingToUndo
  is_2_ValueError := is2_ValueError
  is_3_BadCoins := is3_BadCoins
  is_3_BadLine := is3_BadLine
  is_3_NoCoins := is3_NoCoins
  is_3_NothingToUndo := is3_NothingToUndo
  is_3_ValueError := is3_ValueError
  is_4_BadCoins := is4_BadCoins
  is_4_BadLine := is4_BadLine
  is_4_NoCoins := is4_NoCoins
  is_4_NothingToUndo := is4_NothingToUndo
  is_4_ValueError := is4_ValueError
theorem fin {P : Program} {w : World} {K : PySem.W.Frag} {mg : Str → Option Value} {fa : Addr} {A : Nat → Addr} (T : Tx P K mg A) (h : mg "law" = some (.ref fa)) : ∃ (C : Cfg) (lv : Bool) (fd : FuncData), (∀ (s : Shared) (u : Value), BindsTo s fd ⟨[u], []⟩ [("_law_script", u)]) ∧
    ∀ base : Heap, K.In base → base.Ns mainGlobals mg → FnOk P w K mg base (L2N.CX P w) 11 fa fd ["_law_script"] (spF K C lv false F_law) := by
  obtain ⟨f, fd, Fu, hm⟩ := T.f_law
  cases Value.ref.inj (Option.some.inj (hm.symm.trans h))
  refine ⟨cfg A, true, fd, fun s u => ?_, fun base _ _ => d_law T Fu⟩
  obtain ⟨oc, od, kV, doc, pm, an, cdv, ct, osl, rfl, lk, hcd⟩ := Fu.ex
  exact .of_eq rfl
end K29
open PySem PySem.W PyProof.Rows in
set_option maxRecDepth 100000 in
set_option maxHeartbeats 0 in
theorem PySem.Challenge.cw_beadmoot_k29_ledger_holds : PySem.Challenge.rw_beadmoot_k29_ledger.Holds := by
  w_on; o_law; k_head; (case hw => w_witness2)
  k_fill
  refine Sm.walk_sim (l := PySem.Challenge.rw_beadmoot_k29_ledger) (n := 63) (k := 11) (x := "_law_script") (F := K29.F_law) rfl (by decide) rfl ⟨rfl, by decide, by decide⟩ (fun w h Y => PySem.W.kIn_of Y) ?F ?L
  case L => exact K29.law_true
  case F =>
    intro w mg fa h KX G LL hmg
    have g_MOST_COINS := Sm.loose_int (x := "MOST_COINS") (n := 1000000000000) LL (by decide +kernel)
    have g_MOST_PAID_IN := Sm.loose_int (x := "MOST_PAID_IN") (n := 1000000000) LL (by decide +kernel)
    refine' K29.fin (K29.all_mk KX G (by kernel_rfl) g_MOST_COINS g_MOST_PAID_IN ?aC0 ?aC1 ?aC2 ?aC3 ?aC4 ?aC5 ?pg5 ?hd5 ?po5 ?sa5 ?mk5 ?kp5 ?na5_0 ?na5_1 ?a_5_init ?i_5_init ?l_5_init ?q_5_init ?k_5_init ?a_5_balance ?i_5_balance ?l_5_balance ?q_5_balance ?k_5_balance ?a_5_pay ?i_5_pay ?l_5_pay ?q_5_pay ?k_5_pay ?a_5_pay_in ?i_5_pay_in ?l_5_pay_in ?q_5_pay_in ?k_5_pay_in ?a_5_take_back ?i_5_take_back ?l_5_take_back ?q_5_take_back ?k_5_take_back ?a_5_payments ?i_5_payments ?l_5_payments ?q_5_payments ?k_5_payments ?a_5_spent ?i_5_spent ?l_5_spent ?q_5_spent ?k_5_spent ?a__law_mixed ?l__law_mixed ?q__law_mixed ?k__law_mixed ?a__law_draws ?l__law_draws ?q__law_draws ?k__law_draws ?a__law_words ?l__law_words ?q__law_words ?k__law_words ?a__law_cell ?l__law_cell ?q__law_cell ?k__law_cell ?a__law_first ?l__law_first ?q__law_first ?k__law_first ?a__law_deed ?l__law_deed ?q__law_deed ?k__law_deed ?a__law_balance ?l__law_balance ?q__law_balance ?k__law_balance ?a__law_due ?l__law_due ?q__law_due ?k__law_due ?a__law_behind ?l__law_behind ?q__law_behind ?k__law_behind ?a__law_is_integer ?l__law_is_integer ?q__law_is_integer ?k__law_is_integer ?a__law_same ?l__law_same ?q__law_same ?k__law_same ?a__law_refuses ?l__law_refuses ?q__law_refuses ?k__law_refuses ?a__law_tells ?l__law_tells ?q__law_tells ?k__law_tells ?a__law_ask ?l__law_ask ?q__law_ask ?k__law_ask ?a__law_taken_back ?l__law_taken_back ?q__law_taken_back ?k__law_taken_back ?a_law ?l_law ?q_law ?k_law ?z_ValueError ?z_bool ?z_int ?z_isinstance ?z_len ?z_list ?z_max ?z_min ?z_range ?z_str ?z_sum ?z_tuple ?opq ?zsuper ?cgn ?cgt ?rx0 ?ty0 ?xd0 ?ga0 ?gg0 ?xc0 ?xm0 ?rx1 ?ty1 ?xd1 ?kx1 ?ei1 ?ga1 ?gg1 ?xc1 ?xm1 ?rx2 ?ty2 ?xd2 ?kx2 ?xL_x2 ?al_x2 ?sx_x2 ?mv_x2 ?mc_x2 ?nb_x2_coins ?a_x2 ?t_x2 ?l_x2 ?q_x2 ?u_x2 ?w_x2 ?y_x2 ?cl_x2 ?ga2 ?gg2 ?xc2 ?xm2 ?nf2_coins ?rx3 ?ty3 ?xd3 ?kx3 ?xL_x3 ?al_x3 ?sx_x3 ?mv_x3 ?mc_x3 ?nb_x3_price ?nb_x3_coins ?a_x3 ?t_x3 ?l_x3 ?q_x3 ?u_x3 ?w_x3 ?y_x3 ?cl_x3 ?ga3 ?gg3 ?xc3 ?xm3 ?nf3_coins ?nf3_price ?rx4 ?ty4 ?xd4 ?ga4 ?gg4 ?xc4 ?xm4 ?sb0_0 ?sb0_1 ?sb0_2 ?sb0_3 ?sb1_0 ?sb1_1 ?sb1_2 ?sb1_3 ?sb2_0 ?sb2_1 ?sb2_2 ?sb2_3 ?sb3_0 ?sb3_1 ?sb3_2 ?sb3_3 ?sb4_0 ?sb4_1 ?sb4_2 ?sb4_3 ?is0_BadCoins ?is0_BadLine ?is0_NoCoins ?is0_NothingToUndo ?is0_ValueError ?is1_BadCoins ?is1_BadLine ?is1_NoCoins ?is1_NothingToUndo ?is1_ValueError ?is2_BadCoins ?is2_BadLine ?is2_NoCoins ?is2_NothingToUndo ?is2_ValueError ?is3_BadCoins ?is3_BadLine ?is3_NoCoins ?is3_NothingToUndo ?is3_ValueError ?is4_BadCoins ?is4_BadLine ?is4_NoCoins ?is4_NothingToUndo ?is4_ValueError) hmg
    (case aC0 => first | k_is | rfl | kernel_rfl)
    (case aC1 => first | k_is | rfl | kernel_rfl)
    (case aC2 => first | k_is | rfl | kernel_rfl)
    (case aC3 => first | k_is | rfl | kernel_rfl)
    (case aC4 => first | k_is | rfl | kernel_rfl)
    (case aC5 => first | k_is | rfl | kernel_rfl)
    (case pg5 => first | k_is | rfl | kernel_rfl)
    (case hd5 => first | k_is | rfl | kernel_rfl)
    (case po5 => first | k_is | rfl | kernel_rfl)
    (case sa5 => first | k_is | rfl | kernel_rfl)
    (case mk5 => first | k_is | rfl | kernel_rfl)
    (case kp5 => first | k_is | rfl | kernel_rfl)
    (case na5_0 => first | k_is | rfl | kernel_rfl)
    (case na5_1 => first | k_is | rfl | kernel_rfl)
    (case a_5_init => first | k_is | rfl | kernel_rfl)
    (case i_5_init => first | k_is | rfl | kernel_rfl)
    (case l_5_init => first | k_is | rfl | kernel_rfl)
    (case q_5_init => first | k_is | rfl | kernel_rfl)
    (case k_5_init => first | k_is | rfl | kernel_rfl)
    (case a_5_balance => first | k_is | rfl | kernel_rfl)
    (case i_5_balance => first | k_is | rfl | kernel_rfl)
    (case l_5_balance => first | k_is | rfl | kernel_rfl)
    (case q_5_balance => first | k_is | rfl | kernel_rfl)
    (case k_5_balance => first | k_is | rfl | kernel_rfl)
    (case a_5_pay => first | k_is | rfl | kernel_rfl)
    (case i_5_pay => first | k_is | rfl | kernel_rfl)
    (case l_5_pay => first | k_is | rfl | kernel_rfl)
    (case q_5_pay => first | k_is | rfl | kernel_rfl)
    (case k_5_pay => first | k_is | rfl | kernel_rfl)
    (case a_5_pay_in => first | k_is | rfl | kernel_rfl)
    (case i_5_pay_in => first | k_is | rfl | kernel_rfl)
    (case l_5_pay_in => first | k_is | rfl | kernel_rfl)
    (case q_5_pay_in => first | k_is | rfl | kernel_rfl)
    (case k_5_pay_in => first | k_is | rfl | kernel_rfl)
    (case a_5_take_back => first | k_is | rfl | kernel_rfl)
    (case i_5_take_back => first | k_is | rfl | kernel_rfl)
    (case l_5_take_back => first | k_is | rfl | kernel_rfl)
    (case q_5_take_back => first | k_is | rfl | kernel_rfl)
    (case k_5_take_back => first | k_is | rfl | kernel_rfl)
    (case a_5_payments => first | k_is | rfl | kernel_rfl)
    (case i_5_payments => first | k_is | rfl | kernel_rfl)
    (case l_5_payments => first | k_is | rfl | kernel_rfl)
    (case q_5_payments => first | k_is | rfl | kernel_rfl)
    (case k_5_payments => first | k_is | rfl | kernel_rfl)
    (case a_5_spent => first | k_is | rfl | kernel_rfl)
    (case i_5_spent => first | k_is | rfl | kernel_rfl)
    (case l_5_spent => first | k_is | rfl | kernel_rfl)
    (case q_5_spent => first | k_is | rfl | kernel_rfl)
    (case k_5_spent => first | k_is | rfl | kernel_rfl)
    (case a__law_mixed => first | k_is | rfl | kernel_rfl)
    (case l__law_mixed => first | k_is | rfl | kernel_rfl)
    (case q__law_mixed => first | k_is | rfl | kernel_rfl)
    (case k__law_mixed => first | k_is | rfl | kernel_rfl)
    (case a__law_draws => first | k_is | rfl | kernel_rfl)
    (case l__law_draws => first | k_is | rfl | kernel_rfl)
    (case q__law_draws => first | k_is | rfl | kernel_rfl)
    (case k__law_draws => first | k_is | rfl | kernel_rfl)
    (case a__law_words => first | k_is | rfl | kernel_rfl)
    (case l__law_words => first | k_is | rfl | kernel_rfl)
    (case q__law_words => first | k_is | rfl | kernel_rfl)
    (case k__law_words => first | k_is | rfl | kernel_rfl)
    (case a__law_cell => first | k_is | rfl | kernel_rfl)
    (case l__law_cell => first | k_is | rfl | kernel_rfl)
    (case q__law_cell => first | k_is | rfl | kernel_rfl)
    (case k__law_cell => first | k_is | rfl | kernel_rfl)
    (case a__law_first => first | k_is | rfl | kernel_rfl)
    (case l__law_first => first | k_is | rfl | kernel_rfl)
    (case q__law_first => first | k_is | rfl | kernel_rfl)
    (case k__law_first => first | k_is | rfl | kernel_rfl)
    (case a__law_deed => first | k_is | rfl | kernel_rfl)
    (case l__law_deed => first | k_is | rfl | kernel_rfl)
    (case q__law_deed => first | k_is | rfl | kernel_rfl)
    (case k__law_deed => first | k_is | rfl | kernel_rfl)
    (case a__law_balance => first | k_is | rfl | kernel_rfl)
    (case l__law_balance => first | k_is | rfl | kernel_rfl)
    (case q__law_balance => first | k_is | rfl | kernel_rfl)
    (case k__law_balance => first | k_is | rfl | kernel_rfl)
    (case a__law_due => first | k_is | rfl | kernel_rfl)
    (case l__law_due => first | k_is | rfl | kernel_rfl)
    (case q__law_due => first | k_is | rfl | kernel_rfl)
    (case k__law_due => first | k_is | rfl | kernel_rfl)
    (case a__law_behind => first | k_is | rfl | kernel_rfl)
    (case l__law_behind => first | k_is | rfl | kernel_rfl)
    (case q__law_behind => first | k_is | rfl | kernel_rfl)
    (case k__law_behind => first | k_is | rfl | kernel_rfl)
    (case a__law_is_integer => first | k_is | rfl | kernel_rfl)
    (case l__law_is_integer => first | k_is | rfl | kernel_rfl)
    (case q__law_is_integer => first | k_is | rfl | kernel_rfl)
    (case k__law_is_integer => first | k_is | rfl | kernel_rfl)
    (case a__law_same => first | k_is | rfl | kernel_rfl)
    (case l__law_same => first | k_is | rfl | kernel_rfl)
    (case q__law_same => first | k_is | rfl | kernel_rfl)
    (case k__law_same => first | k_is | rfl | kernel_rfl)
    (case a__law_refuses => first | k_is | rfl | kernel_rfl)
    (case l__law_refuses => first | k_is | rfl | kernel_rfl)
    (case q__law_refuses => first | k_is | rfl | kernel_rfl)
    (case k__law_refuses => first | k_is | rfl | kernel_rfl)
    (case a__law_tells => first | k_is | rfl | kernel_rfl)
    (case l__law_tells => first | k_is | rfl | kernel_rfl)
    (case q__law_tells => first | k_is | rfl | kernel_rfl)
    (case k__law_tells => first | k_is | rfl | kernel_rfl)
    (case a__law_ask => first | k_is | rfl | kernel_rfl)
    (case l__law_ask => first | k_is | rfl | kernel_rfl)
    (case q__law_ask => first | k_is | rfl | kernel_rfl)
    (case k__law_ask => first | k_is | rfl | kernel_rfl)
    (case a__law_taken_back => first | k_is | rfl | kernel_rfl)
    (case l__law_taken_back => first | k_is | rfl | kernel_rfl)
    (case q__law_taken_back => first | k_is | rfl | kernel_rfl)
    (case k__law_taken_back => first | k_is | rfl | kernel_rfl)
    (case a_law => first | k_is | rfl | kernel_rfl)
    (case l_law => first | k_is | rfl | kernel_rfl)
    (case q_law => first | k_is | rfl | kernel_rfl)
    (case k_law => first | k_is | rfl | kernel_rfl)
    (case z_ValueError => first | k_is | rfl | kernel_rfl)
    (case z_bool => first | k_is | rfl | kernel_rfl)
    (case z_int => first | k_is | rfl | kernel_rfl)
    (case z_isinstance => first | k_is | rfl | kernel_rfl)
    (case z_len => first | k_is | rfl | kernel_rfl)
    (case z_list => first | k_is | rfl | kernel_rfl)
    (case z_max => first | k_is | rfl | kernel_rfl)
    (case z_min => first | k_is | rfl | kernel_rfl)
    (case z_range => first | k_is | rfl | kernel_rfl)
    (case z_str => first | k_is | rfl | kernel_rfl)
    (case z_sum => first | k_is | rfl | kernel_rfl)
    (case z_tuple => first | k_is | rfl | kernel_rfl)
    (case opq => first | k_is | rfl | kernel_rfl)
    (case zsuper => first | k_is | rfl | kernel_rfl)
    (case cgn => first | k_is | rfl | kernel_rfl)
    (case cgt => first | k_is | rfl | kernel_rfl)
    (case rx0 => first | k_is | rfl | kernel_rfl)
    (case ty0 => first | k_is | rfl | kernel_rfl)
    (case xd0 => first | k_is | rfl | kernel_rfl)
    (case ga0 => first | k_is | rfl | kernel_rfl)
    (case gg0 => first | k_is | rfl | kernel_rfl)
    (case xc0 => first | k_is | rfl | kernel_rfl)
    (case xm0 => first | k_is | rfl | kernel_rfl)
    (case rx1 => first | k_is | rfl | kernel_rfl)
    (case ty1 => first | k_is | rfl | kernel_rfl)
    (case xd1 => first | k_is | rfl | kernel_rfl)
    (case kx1 => first | k_is | rfl | kernel_rfl)
    (case ei1 => first | k_is | rfl | kernel_rfl)
    (case ga1 => first | k_is | rfl | kernel_rfl)
    (case gg1 => first | k_is | rfl | kernel_rfl)
    (case xc1 => first | k_is | rfl | kernel_rfl)
    (case xm1 => first | k_is | rfl | kernel_rfl)
    (case rx2 => first | k_is | rfl | kernel_rfl)
    (case ty2 => first | k_is | rfl | kernel_rfl)
    (case xd2 => first | k_is | rfl | kernel_rfl)
    (case kx2 => first | k_is | rfl | kernel_rfl)
    (case xL_x2 => first | k_is | rfl | kernel_rfl)
    (case al_x2 => first | k_is | rfl | kernel_rfl)
    (case sx_x2 => first | k_is | rfl | kernel_rfl)
    (case mv_x2 => first | k_is | rfl | kernel_rfl)
    (case mc_x2 => first | k_is | rfl | kernel_rfl)
    (case nb_x2_coins => first | k_is | rfl | kernel_rfl)
    (case a_x2 => first | k_is | rfl | kernel_rfl)
    (case t_x2 => first | k_is | rfl | kernel_rfl)
    (case l_x2 => first | k_is | rfl | kernel_rfl)
    (case q_x2 => first | k_is | rfl | kernel_rfl)
    (case u_x2 => first | k_is | rfl | kernel_rfl)
    (case w_x2 => first | rfl | kernel_rfl)
    (case y_x2 => first | rfl | kernel_rfl)
    (case cl_x2 => first | k_is | rfl | kernel_rfl)
    (case ga2 => first | k_is | rfl | kernel_rfl)
    (case gg2 => first | k_is | rfl | kernel_rfl)
    (case xc2 => first | k_is | rfl | kernel_rfl)
    (case xm2 => first | k_is | rfl | kernel_rfl)
    (case nf2_coins => first | k_is | rfl | kernel_rfl)
    (case rx3 => first | k_is | rfl | kernel_rfl)
    (case ty3 => first | k_is | rfl | kernel_rfl)
    (case xd3 => first | k_is | rfl | kernel_rfl)
    (case kx3 => first | k_is | rfl | kernel_rfl)
    (case xL_x3 => first | k_is | rfl | kernel_rfl)
    (case al_x3 => first | k_is | rfl | kernel_rfl)
    (case sx_x3 => first | k_is | rfl | kernel_rfl)
    (case mv_x3 => first | k_is | rfl | kernel_rfl)
    (case mc_x3 => first | k_is | rfl | kernel_rfl)
    (case nb_x3_price => first | k_is | rfl | kernel_rfl)
    (case nb_x3_coins => first | k_is | rfl | kernel_rfl)
    (case a_x3 => first | k_is | rfl | kernel_rfl)
    (case t_x3 => first | k_is | rfl | kernel_rfl)
    (case l_x3 => first | k_is | rfl | kernel_rfl)
    (case q_x3 => first | k_is | rfl | kernel_rfl)
    (case u_x3 => first | k_is | rfl | kernel_rfl)
    (case w_x3 => first | rfl | kernel_rfl)
    (case y_x3 => first | rfl | kernel_rfl)
    (case cl_x3 => first | k_is | rfl | kernel_rfl)
    (case ga3 => first | k_is | rfl | kernel_rfl)
    (case gg3 => first | k_is | rfl | kernel_rfl)
    (case xc3 => first | k_is | rfl | kernel_rfl)
    (case xm3 => first | k_is | rfl | kernel_rfl)
    (case nf3_coins => first | k_is | rfl | kernel_rfl)
    (case nf3_price => first | k_is | rfl | kernel_rfl)
    (case rx4 => first | k_is | rfl | kernel_rfl)
    (case ty4 => first | k_is | rfl | kernel_rfl)
    (case xd4 => first | k_is | rfl | kernel_rfl)
    (case ga4 => first | k_is | rfl | kernel_rfl)
    (case gg4 => first | k_is | rfl | kernel_rfl)
    (case xc4 => first | k_is | rfl | kernel_rfl)
    (case xm4 => first | k_is | rfl | kernel_rfl)
    (case sb0_0 => first | k_is | rfl | kernel_rfl)
    (case sb0_1 => first | k_is | rfl | kernel_rfl)
    (case sb0_2 => first | k_is | rfl | kernel_rfl)
    (case sb0_3 => first | k_is | rfl | kernel_rfl)
    (case sb1_0 => first | k_is | rfl | kernel_rfl)
    (case sb1_1 => first | k_is | rfl | kernel_rfl)
    (case sb1_2 => first | k_is | rfl | kernel_rfl)
    (case sb1_3 => first | k_is | rfl | kernel_rfl)
    (case sb2_0 => first | k_is | rfl | kernel_rfl)
    (case sb2_1 => first | k_is | rfl | kernel_rfl)
    (case sb2_2 => first | k_is | rfl | kernel_rfl)
    (case sb2_3 => first | k_is | rfl | kernel_rfl)
    (case sb3_0 => first | k_is | rfl | kernel_rfl)
    (case sb3_1 => first | k_is | rfl | kernel_rfl)
    (case sb3_2 => first | k_is | rfl | kernel_rfl)
    (case sb3_3 => first | k_is | rfl | kernel_rfl)
    (case sb4_0 => first | k_is | rfl | kernel_rfl)
    (case sb4_1 => first | k_is | rfl | kernel_rfl)
    (case sb4_2 => first | k_is | rfl | kernel_rfl)
    (case sb4_3 => first | k_is | rfl | kernel_rfl)
    (case is0_BadCoins => first | k_is | rfl | kernel_rfl)
    (case is0_BadLine => first | k_is | rfl | kernel_rfl)
    (case is0_NoCoins => first | k_is | rfl | kernel_rfl)
    (case is0_NothingToUndo => first | k_is | rfl | kernel_rfl)
    (case is0_ValueError => first | k_is | rfl | kernel_rfl)
    (case is1_BadCoins => first | k_is | rfl | kernel_rfl)
    (case is1_BadLine => first | k_is | rfl | kernel_rfl)
    (case is1_NoCoins => first | k_is | rfl | kernel_rfl)
    (case is1_NothingToUndo => first | k_is | rfl | kernel_rfl)
    (case is1_ValueError => first | k_is | rfl | kernel_rfl)
    (case is2_BadCoins => first | k_is | rfl | kernel_rfl)
    (case is2_BadLine => first | k_is | rfl | kernel_rfl)
    (case is2_NoCoins => first | k_is | rfl | kernel_rfl)
    (case is2_NothingToUndo => first | k_is | rfl | kernel_rfl)
    (case is2_ValueError => first | k_is | rfl | kernel_rfl)
    (case is3_BadCoins => first | k_is | rfl | kernel_rfl)
    (case is3_BadLine => first | k_is | rfl | kernel_rfl)
    (case is3_NoCoins => first | k_is | rfl | kernel_rfl)
    (case is3_NothingToUndo => first | k_is | rfl | kernel_rfl)
    (case is3_ValueError => first | k_is | rfl | kernel_rfl)
    (case is4_BadCoins => first | k_is | rfl | kernel_rfl)
    (case is4_BadLine => first | k_is | rfl | kernel_rfl)
    (case is4_NoCoins => first | k_is | rfl | kernel_rfl)
    (case is4_NothingToUndo => first | k_is | rfl | kernel_rfl)
    (case is4_ValueError => first | k_is | rfl | kernel_rfl)
    all_goals first | exact PySem.Value.none | exact Option.none | exact #[] | exact []
