import PyProof.Rows.All
import Wide.All
import OpenK.AllK
import Wide.FinOn
import HandS.ForMost
import HandS.Exc
import HandS.TryMany
import HandS.WordsExc
import HandS.IsInst
import HandS.Flow
import HandS.Wide
import HandS.Style
import HandS.TupAny
import HandS.Replace
import HandS.SetFor
import HandS.Walk
import HandS.Comp
import HandS.ExcCtx
import HandS.ExcInit
import KE.KExcSuper
import KE.KSuper
import HandS.ExcField
import HandS.ExcOwn
import HandS.ExcBuiltin
import HandS.ExcIs
import HandS.HotCalls
import HandS.Text
import HandS.Conv
import HandS.Zip
import HandS.SortInts
import HandS.ClsMeth
import HandS.RaiseMore
import HandS.StrMore
import HandS.TupMul
import HandS.Defaults
import HandS.MakeKwOnly
import HandS.Property
import HandS.TupSets
import PySem.Challenge.RW_beadmoot_k27_game_doors
set_option Elab.async false
set_option linter.all false
set_option maxRecDepth 100000
set_option maxHeartbeats 1000000
/-! Sim 1: values as trees, the store of objects, the relation to HandS's heap, the judgements. -/
namespace Sm
open PySem PySem.Spec PyProof.Rows L2

inductive D where
  | non | bl (b : Bool) | int (i : Int) | str (x : Str)
  | lst (xs : List D) | tup (xs : List D)
  | dK (kvs : List (Key × D)) | dT (kvs : List (List Key × D))
  | ref (i : Nat)
  | obj (c : Nat) (fs : List (Option D))

/-- an exception: its class, its fields -/
structure Exc where
  c : Nat
  fs : List D
/-- the caught exception of a suite: its name's slot, its address, its class, its dict, what it is -/
structure Cau where
  i : Nat
  a : Addr
  cls : Value
  dx : Option Addr
  x : Exc
/-- the classes: their addresses, their attributes' names, which attributes hold a list of their own -/
structure Cfg where
  ca : Nat → Addr
  fl : Nat → List Str
  ow : Nat → Nat → Bool
  xl : Nat → List Str
  cau : Option Cau

structure Ob where
  c : Nat
  fs : List (Option D)
abbrev Sto := List Ob

mutual
inductive Rep (K : PySem.W.Frag) (C : Cfg) (G : Hp) (ρ : List Addr) : D → V → Prop
  | non : Rep K C G ρ .non .non
  | bl (b : Bool) : Rep K C G ρ (.bl b) (.bl b)
  | int (i : Int) : Rep K C G ρ (.int i) (.int i)
  | str (x : Str) : Rep K C G ρ (.str x) (.str x)
  | lst {a : Addr} {vs : List V} {ds : List D} : SqL K G a vs → Reps K C G ρ ds vs → Rep K C G ρ (.lst ds) (.ref a)
  | tup {a : Addr} {vs : List V} {ds : List D} : SqT K G a vs → Reps K C G ρ ds vs → Rep K C G ρ (.tup ds) (.ref a)
  | dK {a : Addr} {ks : List (Key × V)} {ds : List (Key × D)} : G a = some (.dK ks) → RepK K C G ρ ds ks → Rep K C G ρ (.dK ds) (.ref a)
  | dT {a : Addr} {ks : List (List Key × V)} {ds : List (List Key × D)} : G a = some (.dT ks) → RepT K C G ρ ds ks → Rep K C G ρ (.dT ds) (.ref a)
  | ref {i : Nat} {a : Addr} : ρ[i]? = some a → Rep K C G ρ (.ref i) (.ref a)
  | obj {c : Nat} {a dx : Addr} {fs : List (Str × V)} {ds : List (Option D)} : G a = some (.ins (C.ca c) dx fs) → RepF K C G ρ (C.fl c) ds fs →
      (∀ m, m ∉ C.fl c → fs.lookup m = none) → Rep K C G ρ (.obj c ds) (.ref a)
inductive Reps (K : PySem.W.Frag) (C : Cfg) (G : Hp) (ρ : List Addr) : List D → List V → Prop
  | nil : Reps K C G ρ [] []
  | cons {d : D} {v : V} {ds : List D} {vs : List V} : Rep K C G ρ d v → Reps K C G ρ ds vs → Reps K C G ρ (d :: ds) (v :: vs)
inductive RepK (K : PySem.W.Frag) (C : Cfg) (G : Hp) (ρ : List Addr) : List (Key × D) → List (Key × V) → Prop
  | nil : RepK K C G ρ [] []
  | cons {k : Key} {d : D} {v : V} {ds : List (Key × D)} {vs : List (Key × V)} : Rep K C G ρ d v → RepK K C G ρ ds vs → RepK K C G ρ ((k, d) :: ds) ((k, v) :: vs)
inductive RepT (K : PySem.W.Frag) (C : Cfg) (G : Hp) (ρ : List Addr) : List (List Key × D) → List (List Key × V) → Prop
  | nil : RepT K C G ρ [] []
  | cons {k : List Key} {d : D} {v : V} {ds : List (List Key × D)} {vs : List (List Key × V)} : Rep K C G ρ d v → RepT K C G ρ ds vs → RepT K C G ρ ((k, d) :: ds) ((k, v) :: vs)
inductive RepF (K : PySem.W.Frag) (C : Cfg) (G : Hp) (ρ : List Addr) : List Str → List (Option D) → List (Str × V) → Prop
  | nil {fs : List (Str × V)} : RepF K C G ρ [] [] fs
  | none {n : Str} {ns : List Str} {ds : List (Option D)} {fs : List (Str × V)} : fs.lookup n = none → RepF K C G ρ ns ds fs → RepF K C G ρ (n :: ns) (none :: ds) fs
  | some {n : Str} {ns : List Str} {d : D} {v : V} {ds : List (Option D)} {fs : List (Str × V)} : fs.lookup n = some v → Rep K C G ρ d v → RepF K C G ρ ns ds fs → RepF K C G ρ (n :: ns) (some d :: ds) fs
end

theorem sqL_mono {K : PySem.W.Frag} {G G' : Hp} {a : Addr} {vs : List V} (e : Same G G') (h : SqL K G a vs) : SqL K G' a vs := e.seq h
theorem sqT_mono {K : PySem.W.Frag} {G G' : Hp} {a : Addr} {vs : List V} (e : Same G G') (h : SqT K G a vs) : SqT K G' a vs := by
  rcases h with (h | ⟨o, h⟩) | h
  · exact .inl (.inl (e _ _ h))
  · exact .inl (.inr ⟨o, e _ _ h⟩)
  · exact .inr h

section
variable {K : PySem.W.Frag} {C : Cfg} {G G' : Hp} {ρ ρ' : List Addr}
mutual
theorem Rep.mono (hG : Same G G') (hρ : ∀ (i : Nat) (a : Addr), ρ[i]? = some a → ρ'[i]? = some a) : ∀ {d : D} {v : V}, Rep K C G ρ d v → Rep K C G' ρ' d v
  | _, _, .non => .non
  | _, _, .bl b => .bl b
  | _, _, .int i => .int i
  | _, _, .str x => .str x
  | _, _, .lst h r => .lst (sqL_mono hG h) (Reps.mono hG hρ r)
  | _, _, .tup h r => .tup (sqT_mono hG h) (Reps.mono hG hρ r)
  | _, _, .dK h r => .dK (hG _ _ h) (RepK.mono hG hρ r)
  | _, _, .dT h r => .dT (hG _ _ h) (RepT.mono hG hρ r)
  | _, _, .ref h => .ref (hρ _ _ h)
  | _, _, .obj h r q => .obj (hG _ _ h) (RepF.mono hG hρ r) q
theorem Reps.mono (hG : Same G G') (hρ : ∀ (i : Nat) (a : Addr), ρ[i]? = some a → ρ'[i]? = some a) : ∀ {ds : List D} {vs : List V}, Reps K C G ρ ds vs → Reps K C G' ρ' ds vs
  | _, _, .nil => .nil
  | _, _, .cons h r => .cons (Rep.mono hG hρ h) (Reps.mono hG hρ r)
theorem RepK.mono (hG : Same G G') (hρ : ∀ (i : Nat) (a : Addr), ρ[i]? = some a → ρ'[i]? = some a) : ∀ {ds : List (Key × D)} {vs : List (Key × V)}, RepK K C G ρ ds vs → RepK K C G' ρ' ds vs
  | _, _, .nil => .nil
  | _, _, .cons h r => .cons (Rep.mono hG hρ h) (RepK.mono hG hρ r)
theorem RepT.mono (hG : Same G G') (hρ : ∀ (i : Nat) (a : Addr), ρ[i]? = some a → ρ'[i]? = some a) : ∀ {ds : List (List Key × D)} {vs : List (List Key × V)}, RepT K C G ρ ds vs → RepT K C G' ρ' ds vs
  | _, _, .nil => .nil
  | _, _, .cons h r => .cons (Rep.mono hG hρ h) (RepT.mono hG hρ r)
theorem RepF.mono (hG : Same G G') (hρ : ∀ (i : Nat) (a : Addr), ρ[i]? = some a → ρ'[i]? = some a) : ∀ {ns : List Str} {ds : List (Option D)} {fs : List (Str × V)}, RepF K C G ρ ns ds fs → RepF K C G' ρ' ns ds fs
  | _, _, _, .nil => .nil
  | _, _, _, .none e r => .none e (RepF.mono hG hρ r)
  | _, _, _, .some e h r => .some e (Rep.mono hG hρ h) (RepF.mono hG hρ r)
end
theorem Reps.length : ∀ {ds : List D} {vs : List V}, Reps K C G ρ ds vs → ds.length = vs.length
  | _, _, .nil => rfl
  | _, _, .cons _ r => by rw [List.length_cons, List.length_cons, Reps.length r]
theorem Reps.get : ∀ {ds : List D} {vs : List V} {i : Nat} {d : D}, Reps K C G ρ ds vs → ds[i]? = some d → ∃ v, vs[i]? = some v ∧ Rep K C G ρ d v
  | _, _, _, _, .nil, e => by simp at e
  | _, _, 0, _, .cons h _, e => by simp at e; subst e; exact ⟨_, rfl, h⟩
  | _, _, i + 1, _, .cons _ r, e => by
    obtain ⟨v, h1, h2⟩ := Reps.get (i := i) r (by simpa using e)
    exact ⟨v, by simpa using h1, h2⟩
theorem Reps.get' : ∀ {ds : List D} {vs : List V} {i : Nat} {v : V}, Reps K C G ρ ds vs → vs[i]? = some v → ∃ d, ds[i]? = some d ∧ Rep K C G ρ d v
  | _, _, _, _, .nil, e => by simp at e
  | _, _, 0, _, .cons h _, e => by simp at e; subst e; exact ⟨_, rfl, h⟩
  | _, _, i + 1, _, .cons _ r, e => by
    obtain ⟨v, h1, h2⟩ := Reps.get' (i := i) r (by simpa using e)
    exact ⟨v, by simpa using h1, h2⟩
theorem Reps.append : ∀ {ds es : List D} {vs ws : List V}, Reps K C G ρ ds vs → Reps K C G ρ es ws → Reps K C G ρ (ds ++ es) (vs ++ ws)
  | _, _, _, _, .nil, s => s
  | _, _, _, _, .cons h r, s => .cons h (Reps.append r s)
theorem Reps.take : ∀ {ds : List D} {vs : List V} (n : Nat), Reps K C G ρ ds vs → Reps K C G ρ (ds.take n) (vs.take n)
  | _, _, 0, _ => .nil
  | _, _, _ + 1, .nil => .nil
  | _, _, n + 1, .cons h r => .cons h (Reps.take n r)
theorem Reps.drop : ∀ {ds : List D} {vs : List V} (n : Nat), Reps K C G ρ ds vs → Reps K C G ρ (ds.drop n) (vs.drop n)
  | _, _, 0, r => r
  | _, _, _ + 1, .nil => .nil
  | _, _, n + 1, .cons _ r => Reps.drop n r
theorem Reps.set {d : D} {v : V} (h : Rep K C G ρ d v) : ∀ {ds : List D} {vs : List V} (i : Nat), Reps K C G ρ ds vs → Reps K C G ρ (ds.set i d) (vs.set i v)
  | _, _, _, .nil => .nil
  | _, _, 0, .cons _ r => .cons h r
  | _, _, i + 1, .cons q r => .cons q (Reps.set h i r)
theorem Reps.reverse : ∀ {ds : List D} {vs : List V}, Reps K C G ρ ds vs → Reps K C G ρ ds.reverse vs.reverse
  | _, _, .nil => .nil
  | _, _, .cons h r => by rw [List.reverse_cons, List.reverse_cons]; exact (Reps.reverse r).append (.cons h .nil)
end

/-- who owns a cell that may change: a slot of the frame, an object of the store, an attribute -/
inductive Ow where
  | slot (i : Nat) | obj (i : Nat) | fld (i k : Nat)
structure Gh where
  G : Hp
  ρ : List Addr
  own : Addr → Option Ow

/-- what an expression may change (lv: may it change the store?), what a statement may -/
def cE (lv : Bool) : Ow → Bool
  | .slot _ => false
  | _ => lv
def cS (lv : Bool) : Ow → Bool
  | .slot _ => true
  | _ => lv

structure Stp (c : Ow → Bool) (g : Gh) (H : Hp) (g' : Gh) (H' : Hp) : Prop where
  gG : Same g.G g'.G
  fr : ∀ a o, H a = some o → (∀ w, g.own a = some w → c w = false) → H' a = some o
  lv : ∀ a, H' a = none → H a = none
  ow : ∀ a w, g.own a = some w → c w = false → g'.own a = some w
  nw : ∀ a w, g'.own a = some w → g.own a = some w ∨ H a = none
  ng : ∀ a o, g'.G a = some o → g.G a = some o ∨ H a = none ∨ ∃ w, g.own a = some w ∧ c w = true
  ro : ∀ (i : Nat) (a : Addr), g.ρ[i]? = some a → g'.ρ[i]? = some a
theorem Stp.refl {c : Ow → Bool} {g : Gh} {H : Hp} : Stp c g H g H :=
  ⟨Same.refl _, fun _ _ h _ => h, fun _ h => h, fun _ _ h _ => h, fun _ _ h => .inl h, fun _ _ h => .inl h, fun _ _ h => h⟩
theorem Stp.trans {c : Ow → Bool} {g g1 g2 : Gh} {H H1 H2 : Hp} (a : Stp c g H g1 H1) (b : Stp c g1 H1 g2 H2) : Stp c g H g2 H2 where
  gG := a.gG.trans b.gG
  fr := fun x o h hc => b.fr x o (a.fr x o h hc) fun w hw => by
    rcases a.nw x w hw with q | q
    · exact hc w q
    · rw [h] at q; cases q
  lv := fun x h => a.lv x (b.lv x h)
  ow := fun x w h hc => b.ow x w (a.ow x w h hc) hc
  nw := fun x w h => by
    rcases b.nw x w h with q | q
    · exact a.nw x w q
    · exact .inr (a.lv x q)
  ng := fun x o h => by
    rcases b.ng x o h with q | q | ⟨w, q, hc⟩
    · exact a.ng x o q
    · exact .inr (.inl (a.lv x q))
    · rcases a.nw x w q with z | z
      · exact .inr (.inr ⟨w, z, hc⟩)
      · exact .inr (.inl z)
  ro := fun i x h => b.ro i x (a.ro i x h)
theorem Stp.weak {c c' : Ow → Bool} {g g' : Gh} {H H' : Hp} (hc : ∀ w, c w = true → c' w = true) (a : Stp c g H g' H') : Stp c' g H g' H' where
  gG := a.gG
  fr := fun x o h q => a.fr x o h fun w hw => by
    cases e : c w with
    | false => rfl
    | true => have := q w hw; rw [hc w e] at this; cases this
  lv := a.lv
  ow := fun x w h q => a.ow x w h (by
    cases e : c w with
    | false => rfl
    | true => rw [hc w e] at q; cases q)
  nw := a.nw
  ng := fun x o h => (a.ng x o h).imp_right fun z => z.imp_right fun ⟨w, q, e⟩ => ⟨w, q, hc w e⟩
  ro := a.ro
theorem Stp.toS {lv : Bool} {g g' : Gh} {H H' : Hp} (a : Stp (cE lv) g H g' H') : Stp (cS lv) g H g' H' := a.weak fun w h => by
  cases w <;> first | rfl | exact h | cases h
theorem Stp.toA {lv : Bool} {g g' : Gh} {H H' : Hp} (a : Stp (cE false) g H g' H') : Stp (cE lv) g H g' H' := a.weak fun w h => by
  cases w <;> cases h
theorem Stp.toSA {lv : Bool} {g g' : Gh} {H H' : Hp} (a : Stp (cS false) g H g' H') : Stp (cS lv) g H g' H' := a.weak fun w h => by
  cases w <;> first | rfl | cases h

section
variable (K : PySem.W.Frag) (C : Cfg)
/-- what a cell that may change holds -/
def Cell (g : Gh) (H : Hp) (p : Addr) : D → Prop
  | .lst ds => ∃ vs, H p = some (.lst vs) ∧ Reps K C g.G g.ρ ds vs
  | .dK ds => ∃ ks, H p = some (.dK ks) ∧ RepK K C g.G g.ρ ds ks
  | .dT ds => ∃ ks, H p = some (.dT ks) ∧ RepT K C g.G g.ρ ds ks
  | _ => False
/-- an attribute -/
def FldOk (g : Gh) (H : Hp) (i k : Nat) (own : Bool) : Option D → Option V → Prop
  | none, x => x = none
  | some d, x => ∃ v, x = some v ∧ (if own = true then ∃ p, v = .ref p ∧ g.own p = some (.fld i k) ∧ Cell K C g H p d else Rep K C g.G g.ρ d v)
def cnt (fs : List (Option D)) : Nat := (fs.filter Option.isSome).length
structure ObOk (g : Gh) (H : Hp) (i : Nat) (ob : Ob) (a dx : Addr) (fs : List (Str × V)) : Prop where
  at_ : H a = some (.ins (C.ca ob.c) dx fs)
  own : g.own a = some (.obj i)
  len : ob.fs.length = (C.fl ob.c).length
  fld : ∀ (k : Nat) (n : Str) (od : Option D), (C.fl ob.c)[k]? = some n → ob.fs[k]? = some od → FldOk K C g H i k (C.ow ob.c k) od (fs.lookup n)
  no : ∀ m, m ∉ C.fl ob.c → fs.lookup m = none
  few : fs.length ≤ cnt ob.fs
structure StoOk (g : Gh) (H : Hp) (S : Sto) : Prop where
  sub : Same g.G H
  fro : ∀ a w, g.own a = some w → g.G a = none ∧ H a ≠ none
  rlen : g.ρ.length = S.length
  ob : ∀ (i : Nat) (ob : Ob), S[i]? = some ob → ∃ a dx fs, g.ρ[i]? = some a ∧ ObOk K C g H i ob a dx fs
/-- an exception's rendering -/
def RepX (g : Gh) (x : Exc) (cls : Value) (dx : Option Addr) : Prop :=
  cls = .ref (C.ca x.c) ∧ ((x.fs = [] ∧ C.xl x.c = [] ∧ dx = none) ∨ ∃ a fs, dx = some a ∧ g.G a = some (.xd fs) ∧ RepF K C g.G g.ρ (C.xl x.c) (x.fs.map some) fs)
structure Rel (Γ : List Bool) (g : Gh) (sl : List (Option D)) (S : Sto) (σ : L2.St) (H : Hp) : Prop where
  sto : StoOk K C g H S
  len : sl.length = σ.length
  slF : ∀ (i : Nat) (d : D), sl[i]? = some (some d) → Γ.getD i false = false → ∃ v, σ[i]? = some (some v) ∧ Rep K C g.G g.ρ d v
  slO : ∀ (i : Nat) (d : D), sl[i]? = some (some d) → Γ.getD i false = true → ∃ p, σ[i]? = some (some (.ref p)) ∧ g.own p = some (.slot i) ∧ Cell K C g H p d
  cau : ∀ (c : Cau), C.cau = some c → (sl[c.i]? = some none → σ[c.i]? = some (some (.ref c.a))) ∧ RepX K C g c.x c.cls c.dx
end

section
variable {K : PySem.W.Frag} {C : Cfg} {c : Ow → Bool} {g g' : Gh} {H H' : Hp} {S : Sto} {sl : List (Option D)} {σ : L2.St} {Γ : List Bool}
theorem Rep.step {d : D} {v : V} (h : Rep K C g.G g.ρ d v) (st : Stp c g H g' H') : Rep K C g'.G g'.ρ d v := h.mono st.gG st.ro
theorem Reps.step {d : List D} {v : List V} (h : Reps K C g.G g.ρ d v) (st : Stp c g H g' H') : Reps K C g'.G g'.ρ d v := h.mono st.gG st.ro
theorem Cell.there {p : Addr} {d : D} (h : Cell K C g H p d) : ∃ o, H p = some o := by
  cases d <;> first | exact False.elim h | (obtain ⟨vs, e, _⟩ := h; exact ⟨_, e⟩)
theorem Cell.mono {p : Addr} {d : D} (h : Cell K C g H p d) (e : H' p = H p) (hG : Same g.G g'.G) (hρ : ∀ (i : Nat) (a : Addr), g.ρ[i]? = some a → g'.ρ[i]? = some a) : Cell K C g' H' p d := by
  cases d <;> first | exact False.elim h | skip
  · obtain ⟨vs, q, r⟩ := h; exact ⟨vs, by rw [e]; exact q, r.mono hG hρ⟩
  · obtain ⟨vs, q, r⟩ := h; exact ⟨vs, by rw [e]; exact q, r.mono hG hρ⟩
  · obtain ⟨vs, q, r⟩ := h; exact ⟨vs, by rw [e]; exact q, r.mono hG hρ⟩
theorem Cell.step {p : Addr} {d : D} {w : Ow} (h : Cell K C g H p d) (st : Stp c g H g' H') (hw : g.own p = some w) (hc : c w = false) : Cell K C g' H' p d := by
  obtain ⟨o, e⟩ := h.there
  refine h.mono ?_ st.gG st.ro
  rw [e]
  exact st.fr p o e fun w' hw' => by rw [hw] at hw'; cases hw'; exact hc
theorem RepX.mono {x : Exc} {cls : Value} {dx : Option Addr} (hG : Same g.G g'.G) (hρ : ∀ (i : Nat) (a : Addr), g.ρ[i]? = some a → g'.ρ[i]? = some a) (h : RepX K C g x cls dx) : RepX K C g' x cls dx := by
  obtain ⟨h1, h2⟩ := h
  refine ⟨h1, h2.imp_right ?_⟩
  rintro ⟨a, fs, e, q, r⟩
  exact ⟨a, fs, e, hG _ _ q, r.mono hG hρ⟩
theorem cau_mono (hG : Same g.G g'.G) (hρ : ∀ (i : Nat) (a : Addr), g.ρ[i]? = some a → g'.ρ[i]? = some a) (h : ∀ (c : Cau), C.cau = some c → (sl[c.i]? = some none → σ[c.i]? = some (some (.ref c.a))) ∧ RepX K C g c.x c.cls c.dx) :
    ∀ (c : Cau), C.cau = some c → (sl[c.i]? = some none → σ[c.i]? = some (some (.ref c.a))) ∧ RepX K C g' c.x c.cls c.dx := fun c e => ⟨(h c e).1, (h c e).2.mono hG hρ⟩
/-- behind an expression: the slots are as they were -/
theorem Rel.step {lv : Bool} {S' : Sto} (r : Rel K C Γ g sl S σ H) (st : Stp (cE lv) g H g' H') (s' : StoOk K C g' H' S') : Rel K C Γ g' sl S' σ H' :=
  ⟨s', r.len, fun i d e q => let ⟨v, h1, h2⟩ := r.slF i d e q; ⟨v, h1, h2.step st⟩, fun i d e q =>
    let ⟨p, h1, h2, h3⟩ := r.slO i d e q; ⟨p, h1, st.ow p _ h2 rfl, h3.step st h2 rfl⟩, cau_mono st.gG st.ro r.cau⟩
end

/-! ### mirrors -/
inductive Rx (α : Type) where
  | ok (a : α) (S : Sto) | err (x : Exc) (S : Sto) | stuck
abbrev Mx (α : Type) := List (Option D) → Sto → Rx α
inductive Rs where
  | next (sl : List (Option D)) (S : Sto) | ret (d : D) (S : Sto) | brk (sl : List (Option D)) (S : Sto) | cont (sl : List (Option D)) (S : Sto)
  | err (x : Exc) (sl : List (Option D)) (S : Sto) | stuck
abbrev Ms := List (Option D) → Sto → Rs

structure Jd where
  C : Cfg
  W : WX
  lv : Bool

/-- readings -/
def tD (K : PySem.W.Frag) (J : Jd) (Γ : List Bool) (m : Mx D) : TE := fun σ H Q => ∃ g sl S, Rel K J.C Γ g sl S σ H ∧ match m sl S with
  | .ok d S' => ∀ g' H' v, Stp (cE J.lv) g H g' H' → Rel K J.C Γ g' sl S' σ H' → Rep K J.C g'.G g'.ρ d v → Q v H'
  | .err x S' => ∀ g' H' cls dx, Stp (cE J.lv) g H g' H' → Rel K J.C Γ g' sl S' σ H' → RepX K J.C g' x cls dx → J.W cls dx σ H'
  | .stuck => False
/-- an argument list -/
def tDs (K : PySem.W.Frag) (J : Jd) (Γ : List Bool) (m : Mx (List D)) : TA := fun σ H Q => ∃ g sl S, Rel K J.C Γ g sl S σ H ∧ match m sl S with
  | .ok d S' => ∀ g' H' v, Stp (cE J.lv) g H g' H' → Rel K J.C Γ g' sl S' σ H' → Reps K J.C g'.G g'.ρ d v → Q v H'
  | .err x S' => ∀ g' H' cls dx, Stp (cE J.lv) g H g' H' → Rel K J.C Γ g' sl S' σ H' → RepX K J.C g' x cls dx → J.W cls dx σ H'
  | .stuck => False
/-- a test -/
def tDb (K : PySem.W.Frag) (J : Jd) (Γ : List Bool) (m : Mx Bool) : TT := fun σ H Q => ∃ g sl S, Rel K J.C Γ g sl S σ H ∧ match m sl S with
  | .ok b S' => ∀ g' H', Stp (cE J.lv) g H g' H' → Rel K J.C Γ g' sl S' σ H' → Q b H'
  | .err x S' => ∀ g' H' cls dx, Stp (cE J.lv) g H g' H' → Rel K J.C Γ g' sl S' σ H' → RepX K J.C g' x cls dx → J.W cls dx σ H'
  | .stuck => False
/-- borrowed: read now, not kept -/
def RepB (K : PySem.W.Frag) (J : Jd) (g : Gh) (H : Hp) (d : D) (v : V) : Prop :=
  Rep K J.C g.G g.ρ d v ∨ ∃ p w, v = .ref p ∧ g.own p = some w ∧ cE J.lv w = false ∧ Cell K J.C g H p d
def tBo (K : PySem.W.Frag) (J : Jd) (Γ : List Bool) (m : Mx D) : TE := fun σ H Q => ∃ g sl S, Rel K J.C Γ g sl S σ H ∧ match m sl S with
  | .ok d S' => ∀ g' H' v, Stp (cE J.lv) g H g' H' → Rel K J.C Γ g' sl S' σ H' → RepB K J g' H' d v → Q v H'
  | .err x S' => ∀ g' H' cls dx, Stp (cE J.lv) g H g' H' → Rel K J.C Γ g' sl S' σ H' → RepX K J.C g' x cls dx → J.W cls dx σ H'
  | .stuck => False
/-- fresh: a new cell that nobody owns yet -/
def RepN (K : PySem.W.Frag) (C : Cfg) (g : Gh) (H : Hp) (d : D) (v : V) : Prop :=
  ∃ p, v = .ref p ∧ g.own p = none ∧ g.G p = none ∧ Cell K C g H p d
def tNw (K : PySem.W.Frag) (J : Jd) (Γ : List Bool) (m : Mx D) : TE := fun σ H Q => ∃ g sl S, Rel K J.C Γ g sl S σ H ∧ match m sl S with
  | .ok d S' => ∀ g' H' v, Stp (cE J.lv) g H g' H' → Rel K J.C Γ g' sl S' σ H' → RepN K J.C g' H' d v → (∀ p, v = .ref p → H p = none) → Q v H'
  | .err x S' => ∀ g' H' cls dx, Stp (cE J.lv) g H g' H' → Rel K J.C Γ g' sl S' σ H' → RepX K J.C g' x cls dx → J.W cls dx σ H'
  | .stuck => False

structure Js where
  J : Jd
  ΓX : List Bool
  ΓL : List Bool
  fresh : Bool
def RepR (K : PySem.W.Frag) (C : Cfg) (fresh : Bool) (g : Gh) (H : Hp) (d : D) (v : V) : Prop :=
  if fresh = true then ∃ p, v = .ref p ∧ (∃ i, g.own p = some (.slot i)) ∧ Cell K C g H p d else Rep K C g.G g.ρ d v
/-- a statement -/
def tSt (K : PySem.W.Frag) (B : Js) (Γ Γ' : List Bool) (m : Ms) : TS := fun E σ H => ∃ g sl S, Rel K B.J.C Γ g sl S σ H ∧ match m sl S with
  | .next sl' S' => ∀ g' H' σ', Stp (cS B.J.lv) g H g' H' → Rel K B.J.C Γ' g' sl' S' σ' H' → E.nx σ' H'
  | .ret d S' => ∀ g' H' v, Stp (cS B.J.lv) g H g' H' → StoOk K B.J.C g' H' S' → RepR K B.J.C B.fresh g' H' d v → E.rt v H'
  | .brk sl' S' => ∀ g' H' σ', Stp (cS B.J.lv) g H g' H' → Rel K B.J.C B.ΓL g' sl' S' σ' H' → E.bk σ' H'
  | .cont sl' S' => ∀ g' H' σ', Stp (cS B.J.lv) g H g' H' → Rel K B.J.C B.ΓL g' sl' S' σ' H' → E.ct σ' H'
  | .err x sl' S' => ∀ g' H' σ' cls dx, Stp (cS B.J.lv) g H g' H' → Rel K B.J.C B.ΓX g' sl' S' σ' H' → RepX K B.J.C g' x cls dx → B.J.W cls dx σ' H'
  | .stuck => False

def SD (X : Cx) (J : Jd) (Γ : List Bool) (e : Expr) (m : Mx D) : Prop := PE X e (tD X.K J Γ m)
def SB (X : Cx) (J : Jd) (Γ : List Bool) (e : Expr) (m : Mx D) : Prop := PE X e (tBo X.K J Γ m)
def SN (X : Cx) (J : Jd) (Γ : List Bool) (e : Expr) (m : Mx D) : Prop := PE X e (tNw X.K J Γ m)
def SDs (X : Cx) (J : Jd) (Γ : List Bool) (es : List Expr) (m : Mx (List D)) : Prop := PA X es (tDs X.K J Γ m)
def ST (X : Cx) (J : Jd) (Γ : List Bool) (e : Expr) (m : Mx Bool) : Prop := PT X e (tDb X.K J Γ m)
def SS (X : Cx) (B : Js) (Γ Γ' : List Bool) (st : Stmt) (m : Ms) : Prop := PS X st (tSt X.K B Γ Γ' m)
def SSs (X : Cx) (B : Js) (Γ Γ' : List Bool) (st : List Stmt) (m : Ms) : Prop := PSs X st (tSt X.K B Γ Γ' m)

/-! ### consequence -/
theorem PE.imp {X : Cx} {e : Expr} {t t' : TE} (h : PE X e t) (k : ∀ σ H Q, t' σ H Q → t σ H Q) : PE X e t' := ⟨fun pins s σ H Q I q => h.run pins s σ H Q I (k σ H Q q)⟩
theorem PT.imp {X : Cx} {e : Expr} {t t' : TT} (h : PT X e t) (k : ∀ σ H Q, t' σ H Q → t σ H Q) : PT X e t' := ⟨fun pins s σ H Q I q => h.run pins s σ H Q I (k σ H Q q)⟩
theorem PA.imp {X : Cx} {e : List Expr} {t t' : TA} (h : PA X e t) (k : ∀ σ H Q, t' σ H Q → t σ H Q) : PA X e t' := ⟨fun pos pins s σ H Q I q => h.run pos pins s σ H Q I (k σ H Q q)⟩
theorem PS.imp {X : Cx} {e : Stmt} {t t' : TS} (h : PS X e t) (k : ∀ D σ H, t' D σ H → t D σ H) : PS X e t' := ⟨fun pins s σ H Q I q => h.run pins s σ H Q I (k Q σ H q)⟩
theorem PSs.imp {X : Cx} {e : List Stmt} {t t' : TS} (h : PSs X e t) (k : ∀ D σ H, t' D σ H → t D σ H) : PSs X e t' := ⟨fun pins s σ H Q I q => h.run pins s σ H Q I (k Q σ H q)⟩
end Sm
set_option Elab.async false
set_option linter.all false
set_option maxRecDepth 100000
set_option maxHeartbeats 1000000
/-! Sim 2: expressions. -/
namespace Sm
open PySem PySem.Spec PyProof.Rows L2

/-! ### mirrors' words -/
section
variable {α β γ : Type}
def pureX (a : α) : Mx α := fun _ S => .ok a S
def bindX (m : Mx α) (f : α → Mx β) : Mx β := fun sl S => match m sl S with
  | .ok a S' => f a sl S'
  | .err x S' => .err x S'
  | .stuck => .stuck
def ofO (o : Option α) : Mx α := fun _ S => match o with
  | some a => .ok a S
  | none => .stuck
end
def mC (d : D) : Mx D := fun _ S => .ok d S
def mVar (i : Nat) : Mx D := fun sl S => match sl[i]? with
  | some (some d) => .ok d S
  | _ => .stuck
def mOp (f : D → D → Option D) (ma mb : Mx D) : Mx D := bindX ma fun x => bindX mb fun y => ofO (f x y)
def mUn (f : D → Option D) (ma : Mx D) : Mx D := bindX ma fun x => ofO (f x)

/-! ### posts -/
section
variable (K : PySem.W.Frag) (J : Jd) (Γ : List Bool) (σ : L2.St) (sl : List (Option D)) (g : Gh) (H : Hp)
def PErr (x : Exc) (S' : Sto) : Prop := ∀ g' H' cls dx, Stp (cE J.lv) g H g' H' → Rel K J.C Γ g' sl S' σ H' → RepX K J.C g' x cls dx → J.W cls dx σ H'
def PD (Q : VK) : Rx D → Prop
  | .ok d S' => ∀ g' H' v, Stp (cE J.lv) g H g' H' → Rel K J.C Γ g' sl S' σ H' → Rep K J.C g'.G g'.ρ d v → Q v H'
  | .err x S' => PErr K J Γ σ sl g H x S'
  | .stuck => False
def PB (Q : VK) : Rx D → Prop
  | .ok d S' => ∀ g' H' v, Stp (cE J.lv) g H g' H' → Rel K J.C Γ g' sl S' σ H' → RepB K J g' H' d v → Q v H'
  | .err x S' => PErr K J Γ σ sl g H x S'
  | .stuck => False
def PN (Q : VK) : Rx D → Prop
  | .ok d S' => ∀ g' H' v, Stp (cE J.lv) g H g' H' → Rel K J.C Γ g' sl S' σ H' → RepN K J.C g' H' d v → (∀ p, v = .ref p → H p = none) → Q v H'
  | .err x S' => PErr K J Γ σ sl g H x S'
  | .stuck => False
def PDs (Q : List V → Hp → Prop) : Rx (List D) → Prop
  | .ok d S' => ∀ g' H' v, Stp (cE J.lv) g H g' H' → Rel K J.C Γ g' sl S' σ H' → Reps K J.C g'.G g'.ρ d v → Q v H'
  | .err x S' => PErr K J Γ σ sl g H x S'
  | .stuck => False
def PT' (Q : Bool → Hp → Prop) : Rx Bool → Prop
  | .ok b S' => ∀ g' H', Stp (cE J.lv) g H g' H' → Rel K J.C Γ g' sl S' σ H' → Q b H'
  | .err x S' => PErr K J Γ σ sl g H x S'
  | .stuck => False
end
section
variable {K : PySem.W.Frag} {J : Jd} {Γ : List Bool} {σ : L2.St} {sl : List (Option D)} {g : Gh} {H : Hp} {S : Sto}
theorem tD_iff {m : Mx D} {Q : VK} : tD K J Γ m σ H Q ↔ ∃ g sl S, Rel K J.C Γ g sl S σ H ∧ PD K J Γ σ sl g H Q (m sl S) := by
  constructor
  · rintro ⟨g, sl, S, r, h⟩
    exact ⟨g, sl, S, r, by cases e : m sl S <;> (rw [e] at h; exact h)⟩
  · rintro ⟨g, sl, S, r, h⟩
    exact ⟨g, sl, S, r, by cases e : m sl S <;> (rw [e] at h; exact h)⟩
theorem tBo_iff {m : Mx D} {Q : VK} : tBo K J Γ m σ H Q ↔ ∃ g sl S, Rel K J.C Γ g sl S σ H ∧ PB K J Γ σ sl g H Q (m sl S) := by
  constructor
  · rintro ⟨g, sl, S, r, h⟩
    exact ⟨g, sl, S, r, by cases e : m sl S <;> (rw [e] at h; exact h)⟩
  · rintro ⟨g, sl, S, r, h⟩
    exact ⟨g, sl, S, r, by cases e : m sl S <;> (rw [e] at h; exact h)⟩
theorem tNw_iff {m : Mx D} {Q : VK} : tNw K J Γ m σ H Q ↔ ∃ g sl S, Rel K J.C Γ g sl S σ H ∧ PN K J Γ σ sl g H Q (m sl S) := by
  constructor
  · rintro ⟨g, sl, S, r, h⟩
    exact ⟨g, sl, S, r, by cases e : m sl S <;> (rw [e] at h; exact h)⟩
  · rintro ⟨g, sl, S, r, h⟩
    exact ⟨g, sl, S, r, by cases e : m sl S <;> (rw [e] at h; exact h)⟩
theorem tDs_iff {m : Mx (List D)} {Q : List V → Hp → Prop} : tDs K J Γ m σ H Q ↔ ∃ g sl S, Rel K J.C Γ g sl S σ H ∧ PDs K J Γ σ sl g H Q (m sl S) := by
  constructor
  · rintro ⟨g, sl, S, r, h⟩
    exact ⟨g, sl, S, r, by cases e : m sl S <;> (rw [e] at h; exact h)⟩
  · rintro ⟨g, sl, S, r, h⟩
    exact ⟨g, sl, S, r, by cases e : m sl S <;> (rw [e] at h; exact h)⟩
theorem tDb_iff {m : Mx Bool} {Q : Bool → Hp → Prop} : tDb K J Γ m σ H Q ↔ ∃ g sl S, Rel K J.C Γ g sl S σ H ∧ PT' K J Γ σ sl g H Q (m sl S) := by
  constructor
  · rintro ⟨g, sl, S, r, h⟩
    exact ⟨g, sl, S, r, by cases e : m sl S <;> (rw [e] at h; exact h)⟩
  · rintro ⟨g, sl, S, r, h⟩
    exact ⟨g, sl, S, r, by cases e : m sl S <;> (rw [e] at h; exact h)⟩

theorem PErr.step {g1 : Gh} {H1 : Hp} {x : Exc} {S' : Sto} (st : Stp (cE J.lv) g H g1 H1) (h : PErr K J Γ σ sl g H x S') : PErr K J Γ σ sl g1 H1 x S' :=
  fun g' H' cls dx s r e => h g' H' cls dx (st.trans s) r e
theorem PD.step {g1 : Gh} {H1 : Hp} {Q : VK} {r : Rx D} (st : Stp (cE J.lv) g H g1 H1) (h : PD K J Γ σ sl g H Q r) : PD K J Γ σ sl g1 H1 Q r := by
  cases r with
  | ok d S' => exact fun g' H' v s r e => h g' H' v (st.trans s) r e
  | err x S' => exact PErr.step st h
  | stuck => exact h
theorem PB.step {g1 : Gh} {H1 : Hp} {Q : VK} {r : Rx D} (st : Stp (cE J.lv) g H g1 H1) (h : PB K J Γ σ sl g H Q r) : PB K J Γ σ sl g1 H1 Q r := by
  cases r with
  | ok d S' => exact fun g' H' v s r e => h g' H' v (st.trans s) r e
  | err x S' => exact PErr.step st h
  | stuck => exact h
theorem PN.step {g1 : Gh} {H1 : Hp} {Q : VK} {r : Rx D} (st : Stp (cE J.lv) g H g1 H1) (h : PN K J Γ σ sl g H Q r) : PN K J Γ σ sl g1 H1 Q r := by
  cases r with
  | ok d S' => exact fun g' H' v s r e n => h g' H' v (st.trans s) r e fun p hp => st.lv p (n p hp)
  | err x S' => exact PErr.step st h
  | stuck => exact h
theorem PDs.step {g1 : Gh} {H1 : Hp} {Q : List V → Hp → Prop} {r : Rx (List D)} (st : Stp (cE J.lv) g H g1 H1) (h : PDs K J Γ σ sl g H Q r) : PDs K J Γ σ sl g1 H1 Q r := by
  cases r with
  | ok d S' => exact fun g' H' v s r e => h g' H' v (st.trans s) r e
  | err x S' => exact PErr.step st h
  | stuck => exact h
theorem PT'.step {g1 : Gh} {H1 : Hp} {Q : Bool → Hp → Prop} {r : Rx Bool} (st : Stp (cE J.lv) g H g1 H1) (h : PT' K J Γ σ sl g H Q r) : PT' K J Γ σ sl g1 H1 Q r := by
  cases r with
  | ok d S' => exact fun g' H' s r => h g' H' (st.trans s) r
  | err x S' => exact PErr.step st h
  | stuck => exact h
theorem RepB.step {d : D} {v : V} {g' : Gh} {H' : Hp} (h : RepB K J g H d v) (st : Stp (cE J.lv) g H g' H') : RepB K J g' H' d v := by
  rcases h with h | ⟨p, w, rfl, hw, hc, h⟩
  · exact .inl (h.step st)
  · exact .inr ⟨p, w, rfl, st.ow p w hw hc, hc, h.step st hw hc⟩
/-- the value now -/
theorem PD.now {Q : VK} {d : D} {v : V} (h : PD K J Γ σ sl g H Q (.ok d S)) (r : Rel K J.C Γ g sl S σ H) (e : Rep K J.C g.G g.ρ d v) : Q v H := h g H v Stp.refl r e
theorem PB.of {Q : VK} {r : Rx D} (h : PB K J Γ σ sl g H Q r) : PD K J Γ σ sl g H Q r := by
  cases r with
  | ok d S' => exact fun g' H' v s r e => h g' H' v s r (.inl e)
  | err x S' => exact h
  | stuck => exact h

/-! ### a new cell -/
theorem stp_new {c : Ow → Bool} {p : Addr} {o : HO} (hp : H p = none) : Stp c g H g (upd H p o) where
  gG := Same.refl _
  fr := fun a u h _ => by rw [upd_ne (ne_of_none h hp)]; exact h
  lv := fun a h => by
    by_cases e : a = p
    · rw [e]; exact hp
    · rw [upd_ne e] at h; exact h
  ow := fun _ _ h _ => h
  nw := fun _ _ h => .inl h
  ng := fun _ _ h => .inl h
  ro := fun _ _ h => h
/-- .. that is frozen -/
def Gh.frz (g : Gh) (p : Addr) (o : HO) : Gh := { g with G := upd g.G p o }
theorem stp_frz {c : Ow → Bool} {p : Addr} {o : HO} (hp : H p = none) (hg : Same g.G H) : Stp c g H (g.frz p o) (upd H p o) where
  gG := fun a u h => by
    show upd g.G p o a = _
    rw [upd_ne (ne_of_none (hg a u h) hp)]; exact h
  fr := fun a u h _ => by rw [upd_ne (ne_of_none h hp)]; exact h
  lv := fun a h => by
    by_cases e : a = p
    · rw [e]; exact hp
    · rw [upd_ne e] at h; exact h
  ow := fun _ _ h _ => h
  nw := fun _ _ h => .inl h
  ng := fun a u h => by
    by_cases e : a = p
    · exact .inr (.inl (by rw [e]; exact hp))
    · exact .inl (by
        have h' : upd g.G p o a = some u := h
        rw [upd_ne e] at h'; exact h')
  ro := fun _ _ h => h
theorem sto_keep {K : PySem.W.Frag} {C : Cfg} {g g' : Gh} {H H' : Hp} {S : Sto} (s : StoOk K C g H S) (sub : Same g'.G H') (hρ : g'.ρ = g.ρ) (hG : Same g.G g'.G)
    (fro : ∀ a w, g'.own a = some w → g'.G a = none ∧ H' a ≠ none)
    (k : ∀ a w, g.own a = some w → (∀ i, w ≠ .slot i) → g'.own a = some w ∧ H' a = H a) : StoOk K C g' H' S := by
  refine ⟨sub, fro, by rw [hρ]; exact s.rlen, fun i ob e => ?_⟩
  obtain ⟨a, dx, fs, h1, o⟩ := s.ob i ob e
  obtain ⟨k1, k2⟩ := k a _ o.own (fun _ z => by cases z)
  refine ⟨a, dx, fs, by rw [hρ]; exact h1, by rw [k2]; exact o.at_, k1, o.len, fun j n od hn ho => ?_, o.no, o.few⟩
  have q := o.fld j n od hn ho
  cases od with
  | none => exact q
  | some d =>
    obtain ⟨v, e1, e2⟩ := q
    refine ⟨v, e1, ?_⟩
    by_cases hw : C.ow ob.c j = true
    · rw [if_pos hw] at e2 ⊢
      obtain ⟨p, rfl, hp, hc⟩ := e2
      obtain ⟨k3, k4⟩ := k p _ hp (fun _ z => by cases z)
      exact ⟨p, rfl, k3, hc.mono k4 hG (by rw [hρ]; exact fun _ _ z => z)⟩
    · rw [if_neg hw] at e2 ⊢
      exact e2.mono hG (by rw [hρ]; exact fun _ _ z => z)
theorem Rel.sub (r : Rel K J.C Γ g sl S σ H) : Same g.G H := r.sto.sub
theorem own_ne {C : Cfg} {p : Addr} (s : StoOk K C g H S) (hp : H p = none) {a : Addr} {w : Ow} (e : g.own a = some w) : a ≠ p := fun z => by
  rw [z] at e
  exact (s.fro p w e).2 hp
theorem sto_new {C : Cfg} {p : Addr} {o : HO} (s : StoOk K C g H S) (hp : H p = none) : StoOk K C g (upd H p o) S := by
  refine sto_keep s (fun a u h => by rw [upd_ne (ne_of_none (s.sub a u h) hp)]; exact s.sub a u h) rfl (Same.refl _) (fun a w e => ⟨(s.fro a w e).1, by rw [upd_ne (own_ne s hp e)]; exact (s.fro a w e).2⟩) fun a w e _ => ⟨e, by rw [upd_ne (own_ne s hp e)]⟩
theorem sto_frz {C : Cfg} {p : Addr} {o : HO} (s : StoOk K C g H S) (hp : H p = none) : StoOk K C (g.frz p o) (upd H p o) S := by
  refine sto_keep s (fun a u h => ?_) rfl (stp_frz (c := fun _ => false) hp s.sub).gG (fun a w e => ⟨?_, by rw [upd_ne (own_ne s hp e)]; exact (s.fro a w e).2⟩) fun a w e _ => ⟨e, by rw [upd_ne (own_ne s hp e)]⟩
  · by_cases e : a = p
    · subst e
      have h' : upd g.G a o a = some u := h
      rw [upd_same] at h' ⊢; exact h'
    · have h' : upd g.G p o a = some u := h
      rw [upd_ne e] at h' ⊢; exact s.sub a u h'
  · show upd g.G p o a = none
    rw [upd_ne (own_ne s hp e)]; exact (s.fro a w e).1
/-- a new frozen cell is handed on -/
theorem PD.new {Q : VK} {d : D} {p : Addr} {o : HO} (h : PD K J Γ σ sl g H Q (.ok d S)) (r : Rel K J.C Γ g sl S σ H) (hp : H p = none)
    (e : ∀ G', Same g.G G' → G' p = some o → Rep K J.C G' g.ρ d (.ref p)) : Q (.ref p) (upd H p o) := by
  have st : Stp (cE J.lv) g H (g.frz p o) (upd H p o) := stp_frz hp r.sub
  exact h _ _ _ st (r.step st (sto_frz r.sto hp)) (e _ st.gG upd_same)
theorem PD.newL {Q : VK} {ds : List D} {vs : List V} {p : Addr} (h : PD K J Γ σ sl g H Q (.ok (.lst ds) S)) (r : Rel K J.C Γ g sl S σ H) (hp : H p = none) (e : Reps K J.C g.G g.ρ ds vs) : Q (.ref p) (upd H p (.lst vs)) :=
  h.new r hp fun G' hG hp' => .lst (.of hp') (e.mono hG fun _ _ z => z)
theorem PD.newT {Q : VK} {ds : List D} {vs : List V} {p : Addr} (h : PD K J Γ σ sl g H Q (.ok (.tup ds) S)) (r : Rel K J.C Γ g sl S σ H) (hp : H p = none) (e : Reps K J.C g.G g.ρ ds vs) : Q (.ref p) (upd H p (.tup vs)) :=
  h.new r hp fun G' hG hp' => .tup (.of hp') (e.mono hG fun _ _ z => z)
/-- a new cell of nobody's -/
theorem PN.new {Q : VK} {d : D} {p : Addr} {o : HO} (h : PN K J Γ σ sl g H Q (.ok d S)) (r : Rel K J.C Γ g sl S σ H) (hp : H p = none)
    (e : Cell K J.C g (upd H p o) p d) : Q (.ref p) (upd H p o) := by
  have st : Stp (cE J.lv) g H g (upd H p o) := stp_new hp
  refine h _ _ _ st (r.step st (sto_new r.sto hp)) ⟨p, rfl, ?_, ?_, e⟩ fun q hq => by cases hq; exact hp
  · cases q : g.own p with
    | none => rfl
    | some w => exact absurd hp (r.sto.fro p w q).2
  · exact r.sub.free hp
theorem PN.newL {Q : VK} {ds : List D} {vs : List V} {p : Addr} (h : PN K J Γ σ sl g H Q (.ok (.lst ds) S)) (r : Rel K J.C Γ g sl S σ H) (hp : H p = none) (e : Reps K J.C g.G g.ρ ds vs) : Q (.ref p) (upd H p (.lst vs)) :=
  h.new r hp ⟨vs, upd_same, e⟩

/-! ### views of a borrowed value -/
theorem RepB.lst {ds : List D} {v : V} (h : RepB K J g H (.lst ds) v) (hs : Same g.G H) : ∃ p vs, v = .ref p ∧ SqL K H p vs ∧ Reps K J.C g.G g.ρ ds vs := by
  rcases h with h | ⟨p, w, rfl, _, _, vs, e, r⟩
  · cases h with
    | lst a r => exact ⟨_, _, rfl, sqL_mono hs a, r⟩
  · exact ⟨p, vs, rfl, .of e, r⟩
theorem RepB.tup {ds : List D} {v : V} (h : RepB K J g H (.tup ds) v) (hs : Same g.G H) : ∃ p vs, v = .ref p ∧ SqT K H p vs ∧ Reps K J.C g.G g.ρ ds vs := by
  rcases h with h | ⟨p, w, rfl, _, _, z⟩
  · cases h with
    | tup a r => exact ⟨_, _, rfl, sqT_mono hs a, r⟩
  · exact False.elim z
theorem RepB.dK {ds : List (Key × D)} {v : V} (h : RepB K J g H (.dK ds) v) (hs : Same g.G H) : ∃ p vs, v = .ref p ∧ H p = some (.dK vs) ∧ RepK K J.C g.G g.ρ ds vs := by
  rcases h with h | ⟨p, w, rfl, _, _, vs, e, r⟩
  · cases h with
    | dK a r => exact ⟨_, _, rfl, hs _ _ a, r⟩
  · exact ⟨p, vs, rfl, e, r⟩
theorem RepB.int {i : Int} {v : V} (h : RepB K J g H (.int i) v) : v = .int i := by
  rcases h with h | ⟨p, w, rfl, _, _, z⟩
  · cases h; rfl
  · exact False.elim z
theorem RepB.str {i : Str} {v : V} (h : RepB K J g H (.str i) v) : v = .str i := by
  rcases h with h | ⟨p, w, rfl, _, _, z⟩
  · cases h; rfl
  · exact False.elim z
theorem RepB.bl {i : Bool} {v : V} (h : RepB K J g H (.bl i) v) : v = .bl i := by
  rcases h with h | ⟨p, w, rfl, _, _, z⟩
  · cases h; rfl
  · exact False.elim z
theorem RepB.non {v : V} (h : RepB K J g H .non v) : v = .non := by
  rcases h with h | ⟨p, w, rfl, _, _, z⟩
  · cases h; rfl
  · exact False.elim z
theorem RepB.obj {c : Nat} {fs : List (Option D)} {v : V} (h : RepB K J g H (.obj c fs) v) : Rep K J.C g.G g.ρ (.obj c fs) v := by
  rcases h with h | ⟨p, w, rfl, _, _, z⟩
  · exact h
  · exact False.elim z
theorem RepB.ref {c : Nat} {v : V} (h : RepB K J g H (.ref c) v) : ∃ a, v = .ref a ∧ g.ρ[c]? = some a := by
  rcases h with h | ⟨p, w, rfl, _, _, z⟩
  · cases h with
    | ref e => exact ⟨_, rfl, e⟩
  · exact False.elim z

/-! ### chaining -/
structure Post {β : Type} (K : PySem.W.Frag) (J : Jd) (Γ : List Bool) (σ : L2.St) (sl : List (Option D)) (P : Gh → Hp → Rx β → Prop) : Prop where
  err : ∀ g H x S', P g H (.err x S') → PErr K J Γ σ sl g H x S'
  stuck : ∀ g H, P g H .stuck → False
  step : ∀ g H g1 H1 r, Stp (cE J.lv) g H g1 H1 → P g H r → P g1 H1 r
theorem postD {Q : VK} : Post K J Γ σ sl (fun g H r => PD K J Γ σ sl g H Q r) := ⟨fun _ _ _ _ h => h, fun _ _ h => h, fun _ _ _ _ _ s h => PD.step s h⟩
theorem postB {Q : VK} : Post K J Γ σ sl (fun g H r => PB K J Γ σ sl g H Q r) := ⟨fun _ _ _ _ h => h, fun _ _ h => h, fun _ _ _ _ _ s h => PB.step s h⟩
theorem postN {Q : VK} : Post K J Γ σ sl (fun g H r => PN K J Γ σ sl g H Q r) := ⟨fun _ _ _ _ h => h, fun _ _ h => h, fun _ _ _ _ _ s h => PN.step s h⟩
theorem postDs {Q : List V → Hp → Prop} : Post K J Γ σ sl (fun g H r => PDs K J Γ σ sl g H Q r) := ⟨fun _ _ _ _ h => h, fun _ _ h => h, fun _ _ _ _ _ s h => PDs.step s h⟩
theorem postT {Q : Bool → Hp → Prop} : Post K J Γ σ sl (fun g H r => PT' K J Γ σ sl g H Q r) := ⟨fun _ _ _ _ h => h, fun _ _ h => h, fun _ _ _ _ _ s h => PT'.step s h⟩
section
variable {β : Type} {P : Gh → Hp → Rx β → Prop}
/-- a part is evaluated -/
theorem chB {m : Mx D} {f : D → Mx β} {R : VK} (hP : Post K J Γ σ sl P) (r : Rel K J.C Γ g sl S σ H) (h : P g H (bindX m f sl S))
    (k : ∀ g1 H1 d S1 x, Stp (cE J.lv) g H g1 H1 → Rel K J.C Γ g1 sl S1 σ H1 → RepB K J g1 H1 d x → P g1 H1 (f d sl S1) → R x H1) : tBo K J Γ m σ H R := by
  refine tBo_iff.mpr ⟨g, sl, S, r, ?_⟩
  unfold bindX at h
  cases e : m sl S with
  | ok d S' =>
    rw [e] at h
    exact fun g' H' v s r' b => k g' H' d S' v s r' b (hP.step _ _ _ _ _ s h)
  | err x S' =>
    rw [e] at h
    exact hP.err _ _ _ _ h
  | stuck =>
    rw [e] at h
    exact hP.stuck _ _ h
theorem chD {m : Mx D} {f : D → Mx β} {R : VK} (hP : Post K J Γ σ sl P) (r : Rel K J.C Γ g sl S σ H) (h : P g H (bindX m f sl S))
    (k : ∀ g1 H1 d S1 x, Stp (cE J.lv) g H g1 H1 → Rel K J.C Γ g1 sl S1 σ H1 → Rep K J.C g1.G g1.ρ d x → P g1 H1 (f d sl S1) → R x H1) : tD K J Γ m σ H R := by
  refine tD_iff.mpr ⟨g, sl, S, r, ?_⟩
  unfold bindX at h
  cases e : m sl S with
  | ok d S' =>
    rw [e] at h
    exact fun g' H' v s r' b => k g' H' d S' v s r' b (hP.step _ _ _ _ _ s h)
  | err x S' =>
    rw [e] at h
    exact hP.err _ _ _ _ h
  | stuck =>
    rw [e] at h
    exact hP.stuck _ _ h
theorem chDs {m : Mx (List D)} {f : List D → Mx β} {R : List V → Hp → Prop} (hP : Post K J Γ σ sl P) (r : Rel K J.C Γ g sl S σ H) (h : P g H (bindX m f sl S))
    (k : ∀ g1 H1 d S1 x, Stp (cE J.lv) g H g1 H1 → Rel K J.C Γ g1 sl S1 σ H1 → Reps K J.C g1.G g1.ρ d x → P g1 H1 (f d sl S1) → R x H1) : tDs K J Γ m σ H R := by
  refine tDs_iff.mpr ⟨g, sl, S, r, ?_⟩
  unfold bindX at h
  cases e : m sl S with
  | ok d S' =>
    rw [e] at h
    exact fun g' H' v s r' b => k g' H' d S' v s r' b (hP.step _ _ _ _ _ s h)
  | err x S' =>
    rw [e] at h
    exact hP.err _ _ _ _ h
  | stuck =>
    rw [e] at h
    exact hP.stuck _ _ h
theorem chT {m : Mx Bool} {f : Bool → Mx β} {R : Bool → Hp → Prop} (hP : Post K J Γ σ sl P) (r : Rel K J.C Γ g sl S σ H) (h : P g H (bindX m f sl S))
    (k : ∀ g1 H1 d S1, Stp (cE J.lv) g H g1 H1 → Rel K J.C Γ g1 sl S1 σ H1 → P g1 H1 (f d sl S1) → R d H1) : tDb K J Γ m σ H R := by
  refine tDb_iff.mpr ⟨g, sl, S, r, ?_⟩
  unfold bindX at h
  cases e : m sl S with
  | ok d S' =>
    rw [e] at h
    exact fun g' H' s r' => k g' H' d S' s r' (hP.step _ _ _ _ _ s h)
  | err x S' =>
    rw [e] at h
    exact hP.err _ _ _ _ h
  | stuck =>
    rw [e] at h
    exact hP.stuck _ _ h
theorem ofO_of {o : Option β} (hP : Post K J Γ σ sl P) (h : P g H (ofO o sl S)) : ∃ z, o = some z ∧ P g H (.ok z S) := by
  cases o with
  | none => exact (hP.stuck _ _ h).elim
  | some z => exact ⟨z, rfl, h⟩
end
end

/-! ### rules -/
section
variable {X : Cx} {J : Jd} {Γ : List Bool} {a b c e : Expr} {ma mb mc : Mx D} {pos : Pos}
theorem sb_of (h : SD X J Γ e ma) : SB X J Γ e ma := PE.imp h fun σ H Q q => by
  obtain ⟨g, sl, S, r, p⟩ := tBo_iff.mp q
  exact tD_iff.mpr ⟨g, sl, S, r, p.of⟩
theorem sd_scal {d : D} {v : V} (hr : ∀ K C G ρ, Rep K C G ρ d v) (h : PE X e (tC v)) : SD X J Γ e (mC d) := PE.imp h fun σ H Q q => by
  obtain ⟨g, sl, S, r, p⟩ := tD_iff.mp q
  exact PD.now p r (hr _ _ _ _)
theorem sd_int {i : Int} {j : Nat} : SD X J Γ (.Constant (.int i) j pos) (mC (.int i)) := sd_scal (fun _ _ _ _ => .int i) pe_int
theorem sd_bl {i : Bool} {j : Nat} : SD X J Γ (.Constant (.bool i) j pos) (mC (.bl i)) := sd_scal (fun _ _ _ _ => .bl i) pe_bl
theorem sd_str {i : Str} {j : Nat} : SD X J Γ (.Constant (.str i) j pos) (mC (.str i)) := sd_scal (fun _ _ _ _ => .str i) pe_str
theorem sd_non {j : Nat} : SD X J Γ (.Constant .none j pos) (mC .non) := sd_scal (fun _ _ _ _ => .non) pe_non
theorem sd_glob {d : D} {v : V} {u : Value} {x : Str} (hm : X.mg x = some u) (hv : RelV v u) (hr : ∀ C G ρ, Rep X.K C G ρ d v) (hg : Gl X x := by rfl) (hd : (x == ("__debug__" : Str)) = false := by decide) : SD X J Γ (.Name x pos) (mC d) :=
  PE.imp (pe_glob hg hm hv hd) fun σ H Q q => by
    obtain ⟨g, sl, S, r, p⟩ := tD_iff.mp q
    exact PD.now p r (hr _ _ _)
theorem mVar_inv {β : Type} {P : Gh → Hp → Rx D → Prop} {K : PySem.W.Frag} {σ : L2.St} {sl : List (Option D)} {g : Gh} {H : Hp} {S : Sto} (hP : Post K J Γ σ sl P) {i : Nat} (h : P g H (mVar i sl S)) : ∃ d, sl[i]? = some (some d) ∧ P g H (.ok d S) := by
  unfold mVar at h
  split at h
  · rename_i d e
    exact ⟨d, e, h⟩
  · exact (hP.stuck _ _ h).elim
theorem sd_var (i : Nat) {x : Str} (hΓ : Γ.getD i false = false := by rfl) (hN : X.N[i]? = some x := by rfl) (hv : Vis X.env.scope x := by first | exact Or.inl rfl | exact Or.inr (Or.inl rfl) | exact Or.inr (Or.inr rfl)) (hd : (x == ("__debug__" : Str)) = false := by decide)
    (hcd : (x == ("__classdict__" : Str)) = false := by decide) : SD X J Γ (.Name x pos) (mVar i) := PE.imp (pe_var hN hv hd hcd) fun σ H Q q => by
  obtain ⟨g, sl, S, r, p⟩ := tD_iff.mp q
  obtain ⟨d, e, p⟩ := mVar_inv (β := Unit) postD p
  obtain ⟨v, h1, h2⟩ := r.slF i d e hΓ
  exact ⟨v, h1, PD.now p r h2⟩
theorem sb_var (i : Nat) {x : Str} (hN : X.N[i]? = some x := by rfl) (hv : Vis X.env.scope x := by first | exact Or.inl rfl | exact Or.inr (Or.inl rfl) | exact Or.inr (Or.inr rfl)) (hd : (x == ("__debug__" : Str)) = false := by decide)
    (hcd : (x == ("__classdict__" : Str)) = false := by decide) : SB X J Γ (.Name x pos) (mVar i) := PE.imp (pe_var hN hv hd hcd) fun σ H Q q => by
  obtain ⟨g, sl, S, r, p⟩ := tBo_iff.mp q
  obtain ⟨d, e, p⟩ := mVar_inv (β := Unit) postB p
  by_cases hΓ : Γ.getD i false = false
  · obtain ⟨v, h1, h2⟩ := r.slF i d e hΓ
    exact ⟨v, h1, p g H v Stp.refl r (.inl h2)⟩
  · obtain ⟨u, h1, h2, h3⟩ := r.slO i d e (by cases q : Γ.getD i false <;> simp_all)
    exact ⟨.ref u, h1, p g H _ Stp.refl r (.inr ⟨u, _, rfl, h2, rfl, h3⟩)⟩

/-- an operation of two values -/
def Op2 (K : PySem.W.Frag) (r : R2) (f : D → D → Option D) : Prop := ∀ (J : Jd) (Γ : List Bool) (σ : L2.St) (sl : List (Option D)) (g : Gh) (H : Hp) (S : Sto) (Q : VK) (d e z : D) (x y : V),
  f d e = some z → Rel K J.C Γ g sl S σ H → RepB K J g H d x → RepB K J g H e y → PD K J Γ σ sl g H Q (.ok z S) → r x y H Q
def Op1 (K : PySem.W.Frag) (r : V → Hp → VK → Prop) (f : D → Option D) : Prop := ∀ (J : Jd) (Γ : List Bool) (σ : L2.St) (sl : List (Option D)) (g : Gh) (H : Hp) (S : Sto) (Q : VK) (d z : D) (x : V),
  f d = some z → Rel K J.C Γ g sl S σ H → RepB K J g H d x → PD K J Γ σ sl g H Q (.ok z S) → r x H Q
theorem op_run {r : R2} {f : D → D → Option D} (hf : Op2 X.K r f) {σ : L2.St} {H : Hp} {Q : VK} (q : tD X.K J Γ (mOp f ma mb) σ H Q) : tOp r (tBo X.K J Γ ma) (tBo X.K J Γ mb) σ H Q := by
  obtain ⟨g, sl, S, rl, p⟩ := tD_iff.mp q
  refine chB postD rl p fun g1 H1 d S1 x st1 r1 b1 p1 => ?_
  refine chB postD r1 p1 fun g2 H2 e S2 y st2 r2 b2 p2 => ?_
  obtain ⟨z, hz, p3⟩ := ofO_of postD p2
  exact hf J Γ σ sl g2 H2 S2 Q d e z x y hz r2 (b1.step st2) b2 p3
theorem sd_op {op : Operator} {r : R2} {f : D → D → Option D} (ho : OpR X (binaryOp op) r) (hf : Op2 X.K r f) (ha : SB X J Γ a ma) (hb : SB X J Γ b mb) : SD X J Γ (.BinOp a op b pos) (mOp f ma mb) :=
  PE.imp (pe_op ho ha hb) fun σ H Q q => op_run hf q
theorem sd_cmp {op : CmpOp} {r : R2} {f : D → D → Option D} (ho : OpR X (compareOp op) r) (hf : Op2 X.K r f) (ha : SB X J Γ a ma) (hb : SB X J Γ b mb) (hm : behindInMarks op b = false := by first | exact nomark _ | with_unfolding_all rfl) : SD X J Γ (.Compare a [op] [b] pos) (mOp f ma mb) :=
  PE.imp (pe_cmpR ho ha hb hm) fun σ H Q q => op_run hf q
theorem sd_un {op : UnaryOp} {r : V → Hp → VK → Prop} {f : D → Option D} (ho : UnR X (unaryOp op) r) (hf : Op1 X.K r f) (ha : SB X J Γ a ma) : SD X J Γ (.UnaryOp op a pos) (mUn f ma) :=
  PE.imp (pe_un ho ha) fun σ H Q q => by
    obtain ⟨g, sl, S, rl, p⟩ := tD_iff.mp q
    refine chB postD rl p fun g1 H1 d S1 x st1 r1 b1 p1 => ?_
    obtain ⟨z, hz, p3⟩ := ofO_of postD p1
    exact hf J Γ σ sl g1 H1 S1 Q d z x hz r1 b1 p3
end
end Sm
set_option Elab.async false
set_option linter.all false
set_option maxRecDepth 100000
set_option maxHeartbeats 1000000
/-! Sim 3: operations. -/
namespace Sm
open PySem PySem.Spec PyProof.Rows L2

/-! ### data of any depth -/
mutual
def toPy : D → Option PyData
  | .non => some .none
  | .bl b => some (.bool b)
  | .int i => some (.int i)
  | .str x => some (.str x)
  | .lst xs => (toPys xs).map .list
  | .tup xs => (toPys xs).map .tuple
  | _ => none
def toPys : List D → Option (List PyData)
  | [] => some []
  | x :: xs => match toPy x, toPys xs with
    | some p, some ps => some (p :: ps)
    | _, _ => none
end
section
variable {K : PySem.W.Frag} {C : Cfg} {G : Hp} {ρ : List Addr}
mutual
theorem Rep.dp : ∀ (d : D) (v : V) (p : PyData), Rep K C G ρ d v → toPy d = some p → Dp K G v p
  | .non, _, _, h, e => by cases h; simp [toPy] at e; subst e; exact .non
  | .bl b, _, _, h, e => by cases h; simp [toPy] at e; subst e; exact .bl b
  | .int b, _, _, h, e => by cases h; simp [toPy] at e; subst e; exact .int b
  | .str b, _, _, h, e => by cases h; simp [toPy] at e; subst e; exact .str b
  | .lst xs, _, _, h, e => by
    cases h with
    | lst a r =>
      cases q : toPys xs with
      | none => simp [toPy, q] at e
      | some ps => simp [toPy, q] at e; subst e; exact .lst a (Reps.dp xs _ _ r q)
  | .tup xs, _, _, h, e => by
    cases h with
    | tup a r =>
      cases q : toPys xs with
      | none => simp [toPy, q] at e
      | some ps => simp [toPy, q] at e; subst e; exact .tup a (Reps.dp xs _ _ r q)
  | .dK _, _, _, _, e => by simp [toPy] at e
  | .dT _, _, _, _, e => by simp [toPy] at e
  | .ref _, _, _, _, e => by simp [toPy] at e
  | .obj _ _, _, _, _, e => by simp [toPy] at e
theorem Reps.dp : ∀ (ds : List D) (vs : List V) (ps : List PyData), Reps K C G ρ ds vs → toPys ds = some ps → DpAll K G vs ps
  | [], _, _, h, e => by cases h; simp [toPys] at e; subst e; exact .nil
  | x :: xs, _, _, h, e => by
    cases h with
    | cons h1 h2 =>
      unfold toPys at e
      split at e
      · rename_i p ps e1 e2
        cases e
        exact .cons (Rep.dp x _ _ h1 e1) (Reps.dp xs _ _ h2 e2)
      · cases e
end
end
mutual
theorem dpMono {K : PySem.W.Frag} {G H : Hp} (s : Same G H) : ∀ {v : V} {p : PyData}, Dp K G v p → Dp K H v p
  | _, _, .non => .non
  | _, _, .bl b => .bl b
  | _, _, .int b => .int b
  | _, _, .str b => .str b
  | _, _, .lst a r => .lst (sqL_mono s a) (dpsMono s r)
  | _, _, .tup a r => .tup (sqT_mono s a) (dpsMono s r)
theorem dpsMono {K : PySem.W.Frag} {G H : Hp} (s : Same G H) : ∀ {v : List V} {p : List PyData}, DpAll K G v p → DpAll K H v p
  | _, _, .nil => .nil
  | _, _, .cons a r => .cons (dpMono s a) (dpsMono s r)
end
theorem RepB.dp {K : PySem.W.Frag} {J : Jd} {g : Gh} {H : Hp} {d : D} {v : V} {p : PyData} (h : RepB K J g H d v) (hs : Same g.G H) (e : toPy d = some p) : Dp K H v p := by
  rcases h with h | ⟨a, w, rfl, _, _, c⟩
  · exact dpMono hs (Rep.dp _ _ _ h e)
  · cases d <;> first | exact False.elim c | skip
    · obtain ⟨vs, e1, r⟩ := c
      rename_i xs
      cases q : toPys xs with
      | none => simp [toPy, q] at e
      | some ps => simp [toPy, q] at e; subst e; exact .lst (.of e1) (dpsMono hs (Reps.dp _ _ _ r q))
    · simp [toPy] at e
    · simp [toPy] at e

/-! ### equality -/
def dEqv (d e : D) : Option Bool := match toPy d, toPy e with
  | some p, some q => if SeqAt.shaped p = true ∧ SeqAt.shaped q = true then some (PyData.eqv p q) else none
  | _, _ => none
def fEq (d e : D) : Option D := match d, e with
  | .int i, .int j => some (.bl (decide (i = j)))
  | .str i, .str j => some (.bl (decide (i = j)))
  | .bl i, .bl j => some (.bl (decide (i = j)))
  | d, e => (dEqv d e).map .bl
def fNe (d e : D) : Option D := match d, e with
  | .int i, .int j => some (.bl (!decide (i = j)))
  | .str i, .str j => some (.bl (!decide (i = j)))
  | .bl i, .bl j => some (.bl (!decide (i = j)))
  | d, e => (dEqv d e).map fun b => .bl (!b)
def rEqF (K : PySem.W.Frag) : R2 := fun x y H Q => rEq x y H Q ∨ rEqD K x y H Q
def rNeF (K : PySem.W.Frag) : R2 := fun x y H Q => rNe x y H Q ∨ rNeD K x y H Q
section
variable {X : Cx}
theorem o_eq (hu : X.A.units + 64 < cLine) : OpR X (compareOp .Eq) (rEqF X.K) := op_eq.or (op_eqD hu)
theorem o_ne (hu : X.A.units + 64 < cLine) : OpR X (compareOp .NotEq) (rNeF X.K) := op_ne.or (op_neD hu)
end
theorem f_eqD {K : PySem.W.Frag} {J : Jd} {Γ : List Bool} {σ : L2.St} {sl : List (Option D)} {g : Gh} {H : Hp} {S : Sto} {Q : VK} {d e z : D} {x y : V}
    (hz : (dEqv d e).map D.bl = some z) (r : Rel K J.C Γ g sl S σ H) (b1 : RepB K J g H d x) (b2 : RepB K J g H e y) (p : PD K J Γ σ sl g H Q (.ok z S)) : rEqF K x y H Q := by
  unfold dEqv at hz
  split at hz
  · rename_i u v e1 e2
    split at hz
    · rename_i hs
      cases hz
      exact .inr ⟨u, v, b1.dp r.sub e1, b2.dp r.sub e2, hs.1, hs.2, PD.now p r (.bl _)⟩
    · cases hz
  · cases hz
theorem f_neD {K : PySem.W.Frag} {J : Jd} {Γ : List Bool} {σ : L2.St} {sl : List (Option D)} {g : Gh} {H : Hp} {S : Sto} {Q : VK} {d e z : D} {x y : V}
    (hz : ((dEqv d e).map fun b => D.bl (!b)) = some z) (r : Rel K J.C Γ g sl S σ H) (b1 : RepB K J g H d x) (b2 : RepB K J g H e y) (p : PD K J Γ σ sl g H Q (.ok z S)) : rNeF K x y H Q := by
  unfold dEqv at hz
  split at hz
  · rename_i u v e1 e2
    split at hz
    · rename_i hs
      cases hz
      exact .inr ⟨u, v, b1.dp r.sub e1, b2.dp r.sub e2, hs.1, hs.2, PD.now p r (.bl _)⟩
    · cases hz
  · cases hz
theorem f_eq {K : PySem.W.Frag} : Op2 K (rEqF K) fEq := by
  intro J Γ σ sl g H S Q d e z x y hz r b1 b2 p
  unfold fEq at hz
  split at hz
  · cases hz; cases b1.int; cases b2.int
    exact .inl ⟨rfl, by simpa using PD.now p r (.bl _)⟩
  · cases hz; cases b1.str; cases b2.str
    exact .inl ⟨rfl, by simpa using PD.now p r (.bl _)⟩
  · cases hz; cases b1.bl; cases b2.bl
    exact .inl ⟨rfl, by simpa using PD.now p r (.bl _)⟩
  · exact f_eqD hz r b1 b2 p
theorem f_ne {K : PySem.W.Frag} : Op2 K (rNeF K) fNe := by
  intro J Γ σ sl g H S Q d e z x y hz r b1 b2 p
  unfold fNe at hz
  split at hz
  · cases hz; cases b1.int; cases b2.int
    exact .inl ⟨rfl, by simpa using PD.now p r (.bl _)⟩
  · cases hz; cases b1.str; cases b2.str
    exact .inl ⟨rfl, by simpa using PD.now p r (.bl _)⟩
  · cases hz; cases b1.bl; cases b2.bl
    exact .inl ⟨rfl, by simpa using PD.now p r (.bl _)⟩
  · exact f_neD hz r b1 b2 p

/-! ### order of ints -/
def fLt : D → D → Option D | .int i, .int j => some (.bl (decide (i < j))) | _, _ => none
def fLe : D → D → Option D | .int i, .int j => some (.bl (decide (i ≤ j))) | _, _ => none
def fGt : D → D → Option D | .int i, .int j => some (.bl (decide (j < i))) | _, _ => none
def fGe : D → D → Option D | .int i, .int j => some (.bl (decide (j ≤ i))) | _, _ => none
theorem f_int2 {K : PySem.W.Frag} {f : D → D → Option D} {h : Int → Int → V} {k : Int → Int → D} (hf : ∀ d e z, f d e = some z → ∃ i j, d = .int i ∧ e = .int j ∧ z = k i j) (hk : ∀ i j G C ρ, Rep K C G ρ (k i j) (h i j)) : Op2 K (rI0 h) f := by
  intro J Γ σ sl g H S Q d e z x y hz r b1 b2 p
  obtain ⟨i, j, rfl, rfl, rfl⟩ := hf d e z hz
  exact ⟨i, j, b1.int, b2.int, PD.now p r (hk i j _ _ _)⟩
theorem f_lt {K : PySem.W.Frag} : Op2 K (rI0 fun i j => .bl (decide (i < j))) fLt := f_int2 (k := fun i j => .bl (decide (i < j))) (fun d e z h => by unfold fLt at h; split at h <;> cases h; exact ⟨_, _, rfl, rfl, rfl⟩) fun _ _ _ _ _ => .bl _
theorem f_le {K : PySem.W.Frag} : Op2 K (rI0 fun i j => .bl (decide (i ≤ j))) fLe := f_int2 (k := fun i j => .bl (decide (i ≤ j))) (fun d e z h => by unfold fLe at h; split at h <;> cases h; exact ⟨_, _, rfl, rfl, rfl⟩) fun _ _ _ _ _ => .bl _
theorem f_gt {K : PySem.W.Frag} : Op2 K (rI0 fun i j => .bl (decide (j < i))) fGt := f_int2 (k := fun i j => .bl (decide (j < i))) (fun d e z h => by unfold fGt at h; split at h <;> cases h; exact ⟨_, _, rfl, rfl, rfl⟩) fun _ _ _ _ _ => .bl _
theorem f_ge {K : PySem.W.Frag} : Op2 K (rI0 fun i j => .bl (decide (j ≤ i))) fGe := f_int2 (k := fun i j => .bl (decide (j ≤ i))) (fun d e z h => by unfold fGe at h; split at h <;> cases h; exact ⟨_, _, rfl, rfl, rfl⟩) fun _ _ _ _ _ => .bl _

/-! ### arithmetic -/
def fSub : D → D → Option D | .int i, .int j => some (.int (i - j)) | _, _ => none
theorem f_sub {K : PySem.W.Frag} : Op2 K (rI0 fun i j => .int (i - j)) fSub := f_int2 (k := fun i j => .int (i - j)) (fun d e z h => by unfold fSub at h; split at h <;> cases h; exact ⟨_, _, rfl, rfl, rfl⟩) fun _ _ _ _ _ => .int _
theorem f_intC {K : PySem.W.Frag} {f : D → D → Option D} {P : Int → Int → Prop} {h : Int → Int → Int} (hf : ∀ d e z, f d e = some z → ∃ i j, d = .int i ∧ e = .int j ∧ z = .int (h i j) ∧ P i j) : Op2 K (rI P fun i j => .int (h i j)) f := by
  intro J Γ σ sl g H S Q d e z x y hz r b1 b2 p
  obtain ⟨i, j, rfl, rfl, rfl, hp⟩ := hf d e z hz
  exact ⟨i, j, b1.int, b2.int, hp, PD.now p r (.int _)⟩
/-- one factor is small -/
def smallI (i : Int) : Bool := decide (-(2 ^ 64) < i ∧ i < 2 ^ 64)
def fMul : D → D → Option D | .int i, .int j => if smallI i = true ∨ smallI j = true then some (.int (i * j)) else none | _, _ => none
theorem f_mul {K : PySem.W.Frag} : Op2 K (rI CMul fun i j => .int (i * j)) fMul := f_intC fun d e z h => by
  unfold fMul at h
  split at h
  · split at h
    · rename_i hs
      cases h
      refine ⟨_, _, rfl, rfl, rfl, ?_⟩
      rcases hs with hs | hs
      · exact .inl (of_decide_eq_true hs)
      · exact .inr (of_decide_eq_true hs)
    · cases h
  · cases h
def fMod : D → D → Option D | .int i, .int j => if 0 < j then some (.int (i % j)) else none | _, _ => none
theorem f_mod {K : PySem.W.Frag} : Op2 K (rI (fun _ j => 0 < j) fun i j => .int (i % j)) fMod := f_intC fun d e z h => by
  unfold fMod at h
  split at h
  · split at h
    · rename_i hs
      cases h
      exact ⟨_, _, rfl, rfl, rfl, hs⟩
    · cases h
  · cases h
def fFdiv : D → D → Option D | .int i, .int j => if 0 < j ∧ j < 2 ^ 100 then some (.int (i / j)) else none | _, _ => none
def fPow : D → D → Option D | .int i, .int j => if 0 ≤ j ∧ j ≤ 100 ∧ i.natAbs < 2 ^ 64 then some (.int (i ^ j.toNat)) else none | _, _ => none
theorem f_pow {K : PySem.W.Frag} : Op2 K (rI CPow fun i j => .int (i ^ j.toNat)) fPow := f_intC fun d e z h => by
  unfold fPow at h
  split at h
  · split at h
    · rename_i hs
      cases h
      exact ⟨_, _, rfl, rfl, rfl, hs.1, by omega, hs.2.2⟩
    · cases h
  · cases h
theorem log2_lt {j : Int} (h0 : 0 < j) (h : j < 2 ^ 100) : j.natAbs.log2 < 9000 := by
  have h1 : j.natAbs < 2 ^ 100 := by omega
  have h2 : j.natAbs.log2 < 100 := (Nat.log2_lt (by omega)).mpr h1
  omega
theorem f_fdiv {K : PySem.W.Frag} : Op2 K (rI CDivW fun i j => .int (i / j)) fFdiv := f_intC fun d e z h => by
  unfold fFdiv at h
  split at h
  · split at h
    · rename_i hs
      cases h
      exact ⟨_, _, rfl, rfl, rfl, hs.1, log2_lt hs.1 hs.2⟩
    · cases h
  · cases h
/-! + of ints, texts, lists, tuples -/
def fAdd : D → D → Option D
  | .int i, .int j => some (.int (i + j))
  | .str x, .str y => if x.length + y.length ≤ sizeLine then some (.str (x ++ y)) else none
  | .lst xs, .lst ys => if xs.length + ys.length ≤ sizeLine then some (.lst (xs ++ ys)) else none
  | .tup xs, .tup ys => if xs.length + ys.length ≤ sizeLine then some (.tup (xs ++ ys)) else none
  | _, _ => none
def rCatL (K : PySem.W.Frag) : R2 := fun x y H Q => ∃ l b xs zs, x = .ref l ∧ y = .ref b ∧ SqL K H l xs ∧ SqL K H b zs ∧ xs.length + zs.length ≤ sizeLine ∧ ∀ p, H p = none → Q (.ref p) (upd H p (.lst (xs ++ zs)))
theorem op_catL {X : Cx} : OpR X (binaryOp .Add) (rCatL X.K) := by
  intro pins s σ H x y v u Q I rx ry h
  obtain ⟨l, b, xs, zs, rfl, rfl, hH, hB, hz, q⟩ := h
  cases rx
  cases ry
  obtain ⟨its, r, ⟨⟨cls, dd, data, sl⟩, n, ho, hc, hdn, hd⟩, _⟩ := I.list hH
  obtain ⟨its2, r2, ⟨⟨cls2, dd2, data2, sl2⟩, n2, ho2, hc2, hdn2, hd2⟩, _⟩ := I.list hB
  simp only at hc hd hc2 hd2
  subst hc hd hc2 hd2
  have e : its.toArray ++ its2.toArray = (its ++ its2).toArray := by simp
  have l1 := r.length
  have l2 := r2.length
  refine concat_meets ⟨_, ho, rfl⟩ ⟨_, ho2, rfl⟩ noFill_list_add seq_list_add PySem.F.slot_list_add PySem.F.entry_list_add (PySem.F.args_list_add_2 _ _) (list_addW l b its.toArray its2.toArray n n2 dd dd2 sl sl2 (by simp; omega)) ⟨ho, ho2, ?_⟩
  rw [e]
  exact ⟨.ref _, _, I.lnew (t' := s.toks) (r.append r2) (by rw [List.length_append]; exact hz), rfl, q _ I.fresh⟩
def rAddF (K : PySem.W.Frag) : R2 := fun x y H Q => (rI0 (fun i j => .int (i + j)) x y H Q ∨ (∃ i j, x = .str i ∧ y = .str j ∧ i.length + j.length ≤ sizeLine ∧ Q (.str (i ++ j)) H)) ∨ (rCatL K x y H Q ∨ rCatA K x y H Q)
theorem o_add {X : Cx} : OpR X (binaryOp .Add) (rAddF X.K) := (op_add.or op_add_str).or (op_catL.or op_catA)
theorem f_add {K : PySem.W.Frag} : Op2 K (rAddF K) fAdd := by
  intro J Γ σ sl g H S Q d e z x y hz r b1 b2 p
  unfold fAdd at hz
  split at hz
  · cases hz
    exact .inl (.inl ⟨_, _, b1.int, b2.int, PD.now p r (.int _)⟩)
  · split at hz
    · cases hz
      exact .inl (.inr ⟨_, _, b1.str, b2.str, by assumption, PD.now p r (.str _)⟩)
    · cases hz
  · split at hz
    · rename_i hs
      cases hz
      obtain ⟨p1, v1, rfl, s1, r1⟩ := b1.lst r.sub
      obtain ⟨p2, v2, rfl, s2, r2⟩ := b2.lst r.sub
      exact .inr (.inl ⟨p1, p2, v1, v2, rfl, rfl, s1, s2, by rw [← r1.length, ← r2.length]; exact hs, fun q hq => p.newL r hq (r1.append r2)⟩)
    · cases hz
  · split at hz
    · rename_i hs
      cases hz
      rcases b1 with b1 | ⟨_, _, _, _, _, z⟩
      · rcases b2 with b2 | ⟨_, _, _, _, _, z⟩
        · have b1' := b1
          have b2' := b2
          cases b1 with
          | @tup a1 vs1 _ s1 r1 =>
          cases b2 with
          | @tup a2 vs2 _ s2 r2 =>
          refine .inr (.inr ⟨_, _, _, _, rfl, rfl, sqT_mono r.sub s1, sqT_mono r.sub s2, by rw [← r1.length, ← r2.length]; exact hs, fun e => ?_, fun e1 e2 => ?_, fun _ _ q hq => p.newT r hq (r1.append r2)⟩)
          · subst e
            cases r1
            exact PD.now p r b2'
          · subst e2
            cases r2
            rw [List.append_nil] at p
            exact PD.now p r b1'
        · exact False.elim z
      · exact False.elim z
    · cases hz
  · cases hz

/-! ### items -/
theorem Reps.atI {K : PySem.W.Frag} {C : Cfg} {G : Hp} {ρ : List Addr} {ds : List D} {vs : List V} {i : Int} {d : D} (r : Reps K C G ρ ds vs) (e : atI ds i = some d) : ∃ v, L2.atI vs i = some v ∧ Rep K C G ρ d v := by
  unfold L2.atI at e ⊢
  rw [← r.length]
  cases q : ixN ds.length i with
  | none => rw [q] at e; cases e
  | some j =>
    rw [q] at e
    exact Reps.get r e
def fIx (d e : D) : Option D := match d, e with
  | .lst xs, .int i => atI xs i
  | .tup xs, .int i => atI xs i
  | .str z, .int i => if z.length ≤ sizeLine then (atI z.cps.toList i).map fun c => .str ⟨#[c]⟩ else none
  | _, _ => none
theorem f_ix {K : PySem.W.Frag} : Op2 K (rIx K) fIx := by
  intro J Γ σ sl g H S Q d e z x y hz r b1 b2 p
  unfold fIx at hz
  split at hz
  · obtain ⟨p1, v1, rfl, s1, r1⟩ := b1.lst r.sub
    obtain ⟨v, h1, h2⟩ := r1.atI hz
    exact .inl ⟨p1, v1, _, v, rfl, b2.int, s1, h1, PD.now p r h2⟩
  · obtain ⟨p1, v1, rfl, s1, r1⟩ := b1.tup r.sub
    obtain ⟨v, h1, h2⟩ := r1.atI hz
    exact .inr (.inl ⟨p1, v1, _, v, rfl, b2.int, s1, h1, PD.now p r h2⟩)
  · split at hz
    · obtain ⟨c, e, rfl⟩ := Option.map_eq_some_iff.mp hz
      exact .inr (.inr ⟨_, _, c, b1.str, b2.int, by assumption, e, PD.now p r (.str _)⟩)
    · cases hz
  · cases hz
section
variable {X : Cx} {J : Jd} {Γ : List Bool} {a b c e : Expr} {ma mb mc : Mx D} {pos : Pos}
theorem sd_ix (ha : SB X J Γ a ma) (hb : SB X J Γ b mb) (hs : PlainIx b := by exact fun _ _ => rfl) : SD X J Γ (.Subscript a b pos) (mOp fIx ma mb) :=
  PE.imp (pe_ix ix_seq ha hb hs) fun σ H Q q => op_run f_ix q
end

/-! ### slices -/
def cutD (xs : List D) (lo hi : Option Int) : List D := (xs.drop (HT.sIx xs.length 0 lo)).take (HT.sIx xs.length xs.length hi - HT.sIx xs.length 0 lo)
theorem Reps.cut {K : PySem.W.Frag} {C : Cfg} {G : Hp} {ρ : List Addr} {ds : List D} {vs : List V} (r : Reps K C G ρ ds vs) (lo hi : Option Int) : Reps K C G ρ (cutD ds lo hi) (cutV vs lo hi) := by
  unfold cutD cutV
  rw [← r.length]
  exact (r.drop _).take _
def fSl (d : D) (lo hi : Option Int) : Option D := match d with
  | .lst xs => some (.lst (cutD xs lo hi))
  | .tup xs => some (.tup (cutD xs lo hi))
  | .str z => if z.length ≤ sizeLine then some (.str (cutS z lo hi)) else none
  | _ => none
def rSlF (K : PySem.W.Frag) : V → Option Int → Option Int → Hp → VK → Prop := fun x lo hi H Q => rSlL K x lo hi H Q ∨ (rSlA K x lo hi H Q ∨ rSlS x lo hi H Q)
theorem o_sl {X : Cx} : SlR X (rSlF X.K) := sl_list.or (sl_tupA.or sl_str)
theorem cut_all {xs : List D} {lo hi : Option Int} (h : HT.sIx xs.length 0 lo = 0 ∧ HT.sIx xs.length xs.length hi = xs.length) : cutD xs lo hi = xs := by
  unfold cutD
  rw [h.1, h.2]
  simp
theorem f_sl {K : PySem.W.Frag} {J : Jd} {Γ : List Bool} {σ : L2.St} {sl : List (Option D)} {g : Gh} {H : Hp} {S : Sto} {Q : VK} {d z : D} {x : V} {lo hi : Option Int} (hz : fSl d lo hi = some z) (r : Rel K J.C Γ g sl S σ H)
    (b : RepB K J g H d x) (p : PD K J Γ σ sl g H Q (.ok z S)) : rSlF K x lo hi H Q := by
  unfold fSl at hz
  split at hz
  · cases hz
    obtain ⟨p1, v1, rfl, s1, r1⟩ := b.lst r.sub
    exact .inl ⟨p1, v1, rfl, s1, fun q hq => p.newL r hq (r1.cut _ _)⟩
  · cases hz
    rcases b with b | ⟨_, _, _, _, _, z⟩
    · have b' := b
      cases b with
      | @tup a1 vs1 _ s1 r1 =>
      refine .inr (.inl ⟨_, _, rfl, sqT_mono r.sub s1, fun e => ?_, fun _ q hq => p.newT r hq (r1.cut _ _)⟩)
      rw [← r1.length] at e
      rw [cut_all e] at p
      exact PD.now p r b'
    · exact False.elim z
  · split at hz
    · cases hz
      exact .inr (.inr ⟨_, b.str, by assumption, PD.now p r (.str _)⟩)
    · cases hz
  · cases hz
/-- a part of a slice -/
def mPart (o : Option (Mx D)) : Mx (Option Int) := match o with
  | none => pureX none
  | some m => bindX m fun d => match d with
    | .int i => pureX (some i)
    | _ => ofO none
def mSl (ma : Mx D) (lo hi : Option (Mx D)) : Mx D := bindX ma fun d => bindX (mPart lo) fun l => bindX (mPart hi) fun h => ofO (fSl d l h)
/-- the parts of a slice: none, or an expression -/
inductive SP (X : Cx) (J : Jd) (Γ : List Bool) : Option Expr → Option (Mx D) → Prop
  | none : SP X J Γ none none
  | some {e : Expr} {m : Mx D} (h : SD X J Γ e m) : SP X J Γ (some e) (some m)
def tP (K : PySem.W.Frag) (J : Jd) (Γ : List Bool) : Option (Mx D) → TO
  | none => tNoPart
  | some m => tPart (tD K J Γ m)
theorem SP.po {X : Cx} {J : Jd} {Γ : List Bool} {o : Option Expr} {m : Option (Mx D)} (h : SP X J Γ o m) : PO X o (tP X.K J Γ m) := by
  cases h with
  | none => exact po_none
  | some h => exact po_some h
theorem chP {K : PySem.W.Frag} {J : Jd} {Γ : List Bool} {σ : L2.St} {sl : List (Option D)} {g : Gh} {H : Hp} {S : Sto} {β : Type} {P : Gh → Hp → Rx β → Prop} {o : Option (Mx D)} {f : Option Int → Mx β} {R : Option Int → Hp → Prop} (hP : Post K J Γ σ sl P)
    (r : Rel K J.C Γ g sl S σ H) (h : P g H (bindX (mPart o) f sl S))
    (k : ∀ g1 H1 d S1, Stp (cE J.lv) g H g1 H1 → Rel K J.C Γ g1 sl S1 σ H1 → P g1 H1 (f d sl S1) → R d H1) : tP K J Γ o σ H R := by
  cases o with
  | none => exact k g H none S Stp.refl r h
  | some m =>
    have h' : P g H (bindX m (fun d => bindX (match d with | .int i => pureX (some i) | _ => ofO none) f) sl S) := by
      unfold mPart at h
      have e : bindX (bindX m fun d => match d with | .int i => pureX (some i) | _ => ofO none) f sl S = bindX m (fun d => bindX (match d with | .int i => pureX (some i) | _ => ofO none) f) sl S := by
        unfold bindX
        cases m sl S <;> rfl
      rw [← e]; exact h
    refine chD hP r h' fun g1 H1 d S1 x st r1 b p => ?_
    cases d with
    | int i => cases b; exact ⟨i, rfl, k g1 H1 (some i) S1 st r1 p⟩
    | _ => exact (hP.stuck _ _ p).elim
theorem sd_sl {X : Cx} {J : Jd} {Γ : List Bool} {a : Expr} {ma : Mx D} {lo hi : Option Expr} {ml mh : Option (Mx D)} {p2 pos : Pos} (ha : SB X J Γ a ma) (hl : SP X J Γ lo ml) (hh : SP X J Γ hi mh) : SD X J Γ (.Subscript a (.Slice lo hi none p2) pos) (mSl ma ml mh) :=
  PE.imp (pe_slice o_sl ha hl.po hh.po) fun σ H Q q => by
    obtain ⟨g, sl, S, rl, p⟩ := tD_iff.mp q
    refine chB postD rl p fun g1 H1 d S1 x st1 r1 b1 p1 => ?_
    refine chP postD r1 p1 fun g2 H2 l S2 st2 r2 p2 => ?_
    refine chP postD r2 p2 fun g3 H3 h S3 st3 r3 p3 => ?_
    obtain ⟨z, hz, p4⟩ := ofO_of postD p3
    exact f_sl hz r3 ((b1.step st2).step st3) p4
end Sm
set_option Elab.async false
set_option linter.all false
set_option maxRecDepth 100000
set_option maxHeartbeats 1000000
/-! Sim 4: tests, truth, displays, built-in calls, methods, comprehensions. -/
namespace Sm
open PySem PySem.Spec PyProof.Rows L2

/-! ### is -/
theorem is_bool_gen {M : Model} {A : Around} {E : Value → Shared → Prop} {s : Shared} {Q : Value → Shared → Prop} {x : V} {v : Value} {b : Bool} (rx : RelV x v) (h : Q (.bool (v == .bool b)) s) : wpAny M A (compareOp .Is v (.bool b)) Q E s := by
  cases x <;> first
    | (cases rx; exact wpAny_pure h)
    | (obtain ⟨t, rfl⟩ := rx; exact wpAny_pure h)
theorem isnot_bool_gen {M : Model} {A : Around} {E : Value → Shared → Prop} {s : Shared} {Q : Value → Shared → Prop} {x : V} {v : Value} {b : Bool} (rx : RelV x v) (h : Q (.bool (!(v == .bool b))) s) : wpAny M A (compareOp .IsNot v (.bool b)) Q E s := by
  cases x <;> first
    | (cases rx; exact wpAny_pure h)
    | (obtain ⟨t, rfl⟩ := rx; exact wpAny_pure h)
def isV : V → V → Bool
  | x, .non => decide (x = .non)
  | x, .bl b => decide (x = .bl b)
  | _, _ => false
def rIs (neg : Bool) : R2 := fun x y H Q => (y = .non ∨ ∃ b, y = .bl b) ∧ Q (.bl (xor neg (decide (x = y)))) H
section
variable {X : Cx}
theorem relV_bool {x : V} {v : Value} {b : Bool} (r : RelV x v) : (v == Value.bool b) = decide (x = .bl b) := by
  cases x <;> first
    | (cases r; first | rfl | (rename_i c; cases b <;> cases c <;> decide))
    | (obtain ⟨t, rfl⟩ := r; rfl)
theorem o_is : OpR X (compareOp .Is) (rIs false) := by
  intro pins s σ H x y v u Q I rx ry h
  obtain ⟨hy | ⟨b, rfl⟩, q⟩ := h
  · subst hy
    exact op_isN pins s σ H x _ v u Q I rx ry ⟨rfl, by simpa using q⟩
  · cases (show u = Value.bool b from ry)
    refine is_bool_gen rx ⟨.bl _, H, I, ?_, q⟩
    show Value.bool _ = Value.bool _
    rw [relV_bool rx, Bool.false_xor]
theorem o_isnot : OpR X (compareOp .IsNot) (rIs true) := by
  intro pins s σ H x y v u Q I rx ry h
  obtain ⟨hy | ⟨b, rfl⟩, q⟩ := h
  · subst hy
    exact op_notN pins s σ H x _ v u Q I rx ry ⟨rfl, by simpa using q⟩
  · cases (show u = Value.bool b from ry)
    refine isnot_bool_gen rx ⟨.bl _, H, I, ?_, q⟩
    show Value.bool _ = Value.bool _
    rw [relV_bool rx, Bool.true_xor]
end
def isD : D → D → Option Bool
  | .non, .non => some true
  | _, .non => some false
  | .bl a, .bl b => some (a == b)
  | _, .bl _ => some false
  | _, _ => none
def fIs (d e : D) : Option D := (isD d e).map .bl
def fIsNot (d e : D) : Option D := (isD d e).map fun b => .bl (!b)
def Shp : D → V → Prop
  | .non, v => v = .non
  | .bl b, v => v = .bl b
  | .int i, v => v = .int i
  | .str x, v => v = .str x
  | _, v => ∃ a, v = .ref a
theorem RepB.shape {K : PySem.W.Frag} {J : Jd} {g : Gh} {H : Hp} {d : D} {v : V} (h : RepB K J g H d v) : Shp d v := by
  rcases h with h | ⟨p, w, rfl, _, _, c⟩
  · cases h <;> first | rfl | exact ⟨_, rfl⟩
  · cases d <;> first | exact False.elim c | exact ⟨_, rfl⟩
theorem isD_of {K : PySem.W.Frag} {J : Jd} {g : Gh} {H : Hp} {d e : D} {x y : V} {b : Bool} (h : isD d e = some b) (b1 : RepB K J g H d x) (b2 : RepB K J g H e y) : (y = .non ∨ ∃ b, y = .bl b) ∧ decide (x = y) = b := by
  have s1 := b1.shape
  have s2 := b2.shape
  clear b1 b2
  cases e with
  | non =>
    have s2 : y = .non := s2
    subst s2
    refine ⟨.inl rfl, ?_⟩
    cases d <;> (cases h; first | (obtain ⟨a, rfl⟩ := s1; rfl) | (cases s1; rfl))
  | bl c =>
    have s2 : y = .bl c := s2
    subst s2
    refine ⟨.inr ⟨_, rfl⟩, ?_⟩
    cases d <;> (cases h; first | (obtain ⟨a, rfl⟩ := s1; rfl) | (cases s1; first | rfl | (rename_i a; cases a <;> cases c <;> decide)))
  | _ => cases d <;> cases h
theorem f_is {K : PySem.W.Frag} : Op2 K (rIs false) fIs := by
  intro J Γ σ sl g H S Q d e z x y hz r b1 b2 p
  obtain ⟨b, hb, rfl⟩ := Option.map_eq_some_iff.mp hz
  obtain ⟨h1, h2⟩ := isD_of hb b1 b2
  exact ⟨h1, by rw [h2, Bool.false_xor]; exact PD.now p r (.bl _)⟩
theorem f_isnot {K : PySem.W.Frag} : Op2 K (rIs true) fIsNot := by
  intro J Γ σ sl g H S Q d e z x y hz r b1 b2 p
  obtain ⟨b, hb, rfl⟩ := Option.map_eq_some_iff.mp hz
  obtain ⟨h1, h2⟩ := isD_of hb b1 b2
  exact ⟨h1, by rw [h2, Bool.true_xor]; exact PD.now p r (.bl _)⟩

/-! ### truth -/
def truth : D → Option Bool
  | .non => some false
  | .bl b => some b
  | .int i => some (i != 0)
  | .str x => if x.length ≤ sizeLine then some ((x.length : Int) != 0) else none
  | .lst xs => some (!xs.isEmpty)
  | .tup xs => some (!xs.isEmpty)
  | .dK xs => some (!xs.isEmpty)
  | _ => none
theorem reps_empty {K : PySem.W.Frag} {C : Cfg} {G : Hp} {ρ : List Addr} {ds : List D} {vs : List V} (r : Reps K C G ρ ds vs) : ds.isEmpty = vs.isEmpty := by cases r <;> rfl
theorem repK_empty {K : PySem.W.Frag} {C : Cfg} {G : Hp} {ρ : List Addr} {ds : List (Key × D)} {vs : List (Key × V)} (r : RepK K C G ρ ds vs) : ds.isEmpty = vs.isEmpty := by cases r <;> rfl
theorem truth_of {K : PySem.W.Frag} {J : Jd} {g : Gh} {H : Hp} {d : D} {x : V} {b : Bool} (h : truth d = some b) (hs : Same g.G H) (r : RepB K J g H d x) : TruV K x H b := by
  cases d with
  | non => cases h; cases r.non; rfl
  | bl i => cases h; cases r.bl; rfl
  | int i => cases h; cases r.int; rfl
  | str i =>
    have h' : (if i.length ≤ sizeLine then some ((i.length : Int) != 0) else none) = some b := h
    by_cases c : i.length ≤ sizeLine
    · rw [if_pos c] at h'
      cases h'; cases r.str; exact ⟨c, rfl⟩
    · rw [if_neg c] at h'
      cases h'
  | lst ds =>
    cases h
    obtain ⟨p, vs, rfl, s1, r1⟩ := r.lst hs
    exact .inl ⟨vs, s1, by rw [reps_empty r1]⟩
  | tup ds =>
    cases h
    obtain ⟨p, vs, rfl, s1, r1⟩ := r.tup hs
    exact .inr (.inl ⟨vs, s1, by rw [reps_empty r1]⟩)
  | dK ds =>
    cases h
    obtain ⟨p, vs, rfl, s1, r1⟩ := r.dK hs
    exact .inr (.inr ⟨vs, s1, by rw [repK_empty r1]⟩)
  | _ => cases h
def asBl : D → Option Bool
  | .bl b => some b
  | _ => none
def mTst (m : Mx D) : Mx Bool := bindX m fun d => ofO (asBl d)
def mTru (m : Mx D) : Mx Bool := bindX m fun d => ofO (truth d)
def mAndT (a b : Mx Bool) : Mx Bool := bindX a fun x => if x = true then b else pureX false
def mOrT (a b : Mx Bool) : Mx Bool := bindX a fun x => if x = true then pureX true else b
def mNotT (a : Mx Bool) : Mx Bool := bindX a fun x => pureX (!x)
/-- and, or as values -/
def mAnd (a b : Mx D) : Mx D := bindX a fun x => bindX (ofO (truth x)) fun k => if k = true then b else pureX x
def mOr (a b : Mx D) : Mx D := bindX a fun x => bindX (ofO (truth x)) fun k => if k = true then pureX x else b
def mNot (a : Mx D) : Mx D := bindX a fun x => ofO ((truth x).map fun k => .bl (!k))
def mIfE (c : Mx Bool) (a b : Mx D) : Mx D := bindX c fun k => if k = true then a else b
section
variable {X : Cx} {J : Jd} {Γ : List Bool} {a b c e : Expr} {rest : List Expr} {ma mb mc : Mx D} {ta tb : Mx Bool} {pos : Pos}
theorem PT'.now {K : PySem.W.Frag} {σ : L2.St} {sl : List (Option D)} {g : Gh} {H : Hp} {S : Sto} {Q : Bool → Hp → Prop} {b : Bool} (h : PT' K J Γ σ sl g H Q (.ok b S)) (r : Rel K J.C Γ g sl S σ H) : Q b H := h g H Stp.refl r
theorem st_cmp {op : CmpOp} {r : R2} {f : D → D → Option D} (ho : OpR X (compareOp op) r) (hf : Op2 X.K r f) (ha : SB X J Γ a ma) (hb : SB X J Γ b mb) (hm : behindInMarks op b = false := by first | exact nomark _ | with_unfolding_all rfl) : ST X J Γ (.Compare a [op] [b] pos) (mTst (mOp f ma mb)) :=
  PT.imp (pt_cmpR ho ha hb hm) fun σ H Q q => by
    obtain ⟨g, sl, S, rl, p⟩ := tDb_iff.mp q
    refine op_run hf (tD_iff.mpr ⟨g, sl, S, rl, ?_⟩)
    unfold mTst bindX at p
    cases e : mOp f ma mb sl S with
    | ok d S' =>
      rw [e] at p
      obtain ⟨k, hk, p⟩ := ofO_of postT p
      cases d <;> first | cases hk | skip
      exact fun g' H' v st rl' rp => by cases rp; exact ⟨_, rfl, p g' H' st rl'⟩
    | err x S' => rw [e] at p; exact p
    | stuck => rw [e] at p; exact p
theorem st_tru (ha : SB X J Γ a ma) (he : ∀ whole, isTrue a X.env whole = (do let v ← whole; standAt a.pos; holding [v] (truthy v)) := by exact fun _ => rfl) : ST X J Γ a (mTru ma) :=
  PT.imp (pt_truth ha he) fun σ H Q q => by
    obtain ⟨g, sl, S, rl, p⟩ := tDb_iff.mp q
    refine chB postT rl p fun g1 H1 d S1 x st1 r1 b1 p1 => ?_
    obtain ⟨k, hk, p2⟩ := ofO_of postT p1
    exact ⟨k, truth_of hk r1.sub b1, p2.now r1⟩
/-- of and, or: whatever the whole is -/
def SW (X : Cx) (J : Jd) (Γ : List Bool) (e : Expr) (m : Mx Bool) : Prop := PW X e (tDb X.K J Γ m)
theorem PW.imp {t t' : TT} (h : PW X e t) (k : ∀ σ H Q, t' σ H Q → t σ H Q) : PW X e t' := ⟨fun wh pins s σ H Q I q => h.run wh pins s σ H Q I (k σ H Q q)⟩
theorem sw_and1 (h : ST X J Γ a ta) : SW X J Γ (.BoolOp .And [a] pos) ta := pw_and1 h
theorem sw_or1 (h : ST X J Γ a ta) : SW X J Γ (.BoolOp .Or [a] pos) ta := pw_or1 h
theorem sw_and (h : ST X J Γ a ta) (hb : SW X J Γ (.BoolOp .And (b :: rest) pos) tb) : SW X J Γ (.BoolOp .And (a :: b :: rest) pos) (mAndT ta tb) :=
  PW.imp (pw_and h hb) fun σ H Q q => by
    obtain ⟨g, sl, S, rl, p⟩ := tDb_iff.mp q
    refine chT postT rl p fun g1 H1 d S1 st1 r1 p1 => ?_
    cases d with
    | true => exact tDb_iff.mpr ⟨g1, sl, S1, r1, p1⟩
    | false => exact PT'.now p1 r1
theorem sw_or (h : ST X J Γ a ta) (hb : SW X J Γ (.BoolOp .Or (b :: rest) pos) tb) : SW X J Γ (.BoolOp .Or (a :: b :: rest) pos) (mOrT ta tb) :=
  PW.imp (pw_or h hb) fun σ H Q q => by
    obtain ⟨g, sl, S, rl, p⟩ := tDb_iff.mp q
    refine chT postT rl p fun g1 H1 d S1 st1 r1 p1 => ?_
    cases d with
    | false => exact tDb_iff.mpr ⟨g1, sl, S1, r1, p1⟩
    | true => exact PT'.now p1 r1
theorem st_w (h : SW X J Γ e ta) : ST X J Γ e ta := L2.PW.pt h
theorem st_not (h : ST X J Γ a ta) : ST X J Γ (.UnaryOp .Not a pos) (mNotT ta) :=
  PT.imp (pt_not h) fun σ H Q q => by
    obtain ⟨g, sl, S, rl, p⟩ := tDb_iff.mp q
    exact chT postT rl p fun g1 H1 d S1 st1 r1 p1 => PT'.now p1 r1
theorem sd_and1 (h : SD X J Γ a ma) : SD X J Γ (.BoolOp .And [a] pos) ma := pe_one h
theorem sd_or1 (h : SD X J Γ a ma) : SD X J Γ (.BoolOp .Or [a] pos) ma := pe_one h
theorem sd_and (h : SD X J Γ a ma) (hb : SD X J Γ (.BoolOp .And (b :: rest) pos) mb) : SD X J Γ (.BoolOp .And (a :: b :: rest) pos) (mAnd ma mb) :=
  PE.imp (pe_andT h hb) fun σ H Q q => by
    obtain ⟨g, sl, S, rl, p⟩ := tD_iff.mp q
    refine chD postD rl p fun g1 H1 d S1 x st1 r1 b1 p1 => ?_
    have p1' : PD X.K J Γ σ sl g1 H1 Q (bindX (ofO (truth d)) (fun k => if k = true then mb else pureX d) sl S1) := p1
    cases e : truth d with
    | none => rw [e] at p1'; exact False.elim p1'
    | some k =>
      rw [e] at p1'
      refine ⟨k, truth_of e r1.sub (.inl b1), ?_⟩
      cases k with
      | true => exact tD_iff.mpr ⟨g1, sl, S1, r1, p1'⟩
      | false => exact PD.now p1' r1 b1
theorem sd_or (h : SD X J Γ a ma) (hb : SD X J Γ (.BoolOp .Or (b :: rest) pos) mb) : SD X J Γ (.BoolOp .Or (a :: b :: rest) pos) (mOr ma mb) :=
  PE.imp (pe_orT h hb) fun σ H Q q => by
    obtain ⟨g, sl, S, rl, p⟩ := tD_iff.mp q
    refine chD postD rl p fun g1 H1 d S1 x st1 r1 b1 p1 => ?_
    have p1' : PD X.K J Γ σ sl g1 H1 Q (bindX (ofO (truth d)) (fun k => if k = true then pureX d else mb) sl S1) := p1
    cases e : truth d with
    | none => rw [e] at p1'; exact False.elim p1'
    | some k =>
      rw [e] at p1'
      refine ⟨k, truth_of e r1.sub (.inl b1), ?_⟩
      cases k with
      | false => exact tD_iff.mpr ⟨g1, sl, S1, r1, p1'⟩
      | true => exact PD.now p1' r1 b1
theorem sd_not (h : SB X J Γ a ma) : SD X J Γ (.UnaryOp .Not a pos) (mNot ma) :=
  PE.imp (pe_notT h) fun σ H Q q => by
    obtain ⟨g, sl, S, rl, p⟩ := tD_iff.mp q
    refine chB postD rl p fun g1 H1 d S1 x st1 r1 b1 p1 => ?_
    obtain ⟨z, hz, p2⟩ := ofO_of postD p1
    obtain ⟨k, e, rfl⟩ := Option.map_eq_some_iff.mp hz
    exact ⟨k, truth_of e r1.sub b1, PD.now p2 r1 (.bl _)⟩
theorem sd_ife (hc : ST X J Γ c ta) (ha : SD X J Γ a ma) (hb : SD X J Γ b mb) : SD X J Γ (.IfExp c a b pos) (mIfE ta ma mb) :=
  PE.imp (pe_ifExp hc ha hb) fun σ H Q q => by
    obtain ⟨g, sl, S, rl, p⟩ := tD_iff.mp q
    refine chT postD rl p fun g1 H1 d S1 st1 r1 p1 => ?_
    cases d with
    | true => exact tD_iff.mpr ⟨g1, sl, S1, r1, p1⟩
    | false => exact tD_iff.mpr ⟨g1, sl, S1, r1, p1⟩
theorem sd_lv {J' : Jd} (hC : J'.C = J.C) (hW : J'.W = J.W) (hl : J'.lv = false) (h : SD X J' Γ e ma) : SD X J Γ e ma := by
  obtain ⟨C, W, lv⟩ := J
  obtain ⟨C', W', lv'⟩ := J'
  cases hC; cases hW; cases hl
  exact PE.imp h fun σ H Q q => by
    obtain ⟨g, sl, S, rl, p⟩ := tD_iff.mp q
    refine tD_iff.mpr ⟨g, sl, S, rl, ?_⟩
    cases e : ma sl S with
    | ok d S' => rw [e] at p; exact fun g' H' v st r b => p g' H' v st.toA r b
    | err x S' => rw [e] at p; exact fun g' H' cls dx st r b => p g' H' cls dx st.toA r b
    | stuck => rw [e] at p; exact p

/-! ### arguments, displays -/
def mNil : Mx (List D) := pureX []
def mCons (m : Mx D) (ms : Mx (List D)) : Mx (List D) := bindX m fun d => bindX ms fun ds => pureX (d :: ds)
theorem sds_nil : SDs X J Γ [] mNil := PA.imp pa_nil fun σ H Q q => by
  obtain ⟨g, sl, S, rl, p⟩ := tDs_iff.mp q
  exact p g H [] Stp.refl rl .nil
theorem sds_cons {es : List Expr} {ms : Mx (List D)} (ha : SD X J Γ e ma) (hr : SDs X J Γ es ms) (hs : starEach (e :: es) X.env = (false, eval e X.env) :: starEach es X.env := by rfl) : SDs X J Γ (e :: es) (mCons ma ms) :=
  PA.imp (pa_cons ha hr hs) fun σ H Q q => by
    obtain ⟨g, sl, S, rl, p⟩ := tDs_iff.mp q
    refine chD postDs rl p fun g1 H1 d S1 x st1 r1 b1 p1 => ?_
    refine chDs postDs r1 p1 fun g2 H2 ds S2 xs st2 r2 b2 p2 => ?_
    exact p2 g2 H2 (x :: xs) Stp.refl r2 (.cons (b1.step st2) b2)
def mLst (m : Mx (List D)) : Mx D := bindX m fun ds => if ds.length ≤ sizeLine then pureX (.lst ds) else ofO none
def mTup (m : Mx (List D)) : Mx D := bindX m fun ds => if ds.length ≤ sizeLine then pureX (.tup ds) else ofO none
theorem sd_tup {es : List Expr} {x1 : Nat} {ms : Mx (List D)} (h : SDs X J Γ es ms) : SD X J Γ (.Tuple es x1 pos) (mTup ms) :=
  PE.imp (pe_tup h) fun σ H Q q => by
    obtain ⟨g, sl, S, rl, p⟩ := tD_iff.mp q
    refine chDs postD rl p fun g1 H1 ds S1 xs st1 r1 b1 p1 => ?_
    by_cases hs : ds.length ≤ sizeLine
    · rw [if_pos hs] at p1
      exact ⟨by rw [← b1.length]; exact hs, fun q hq => PD.newT p1 r1 hq b1⟩
    · rw [if_neg hs] at p1
      exact False.elim p1
theorem sd_lst {es : List Expr} {ms : Mx (List D)} (h : SDs X J Γ es ms) : SD X J Γ (.List es pos) (mLst ms) :=
  PE.imp (pe_lst h) fun σ H Q q => by
    obtain ⟨g, sl, S, rl, p⟩ := tD_iff.mp q
    refine chDs postD rl p fun g1 H1 ds S1 xs st1 r1 b1 p1 => ?_
    by_cases hs : ds.length ≤ sizeLine
    · rw [if_pos hs] at p1
      exact ⟨by rw [← b1.length]; exact hs, fun q hq => PD.newL p1 r1 hq b1⟩
    · rw [if_neg hs] at p1
      exact False.elim p1
theorem PN.weak {K : PySem.W.Frag} {σ : L2.St} {sl : List (Option D)} {g g1 : Gh} {H H1 : Hp} {Q : VK} {r : Rx D} (st : Stp (cE J.lv) g H g1 H1) (h : PN K J Γ σ sl g H Q r) : PN K J Γ σ sl g1 H1 Q r := PN.step st h
theorem sn_lst {es : List Expr} {ms : Mx (List D)} (h : SDs X J Γ es ms) : SN X J Γ (.List es pos) (mLst ms) :=
  PE.imp (pe_lst h) fun σ H Q q => by
    obtain ⟨g, sl, S, rl, p⟩ := tNw_iff.mp q
    refine chDs postN rl p fun g1 H1 ds S1 xs st1 r1 b1 p1 => ?_
    by_cases hs : ds.length ≤ sizeLine
    · rw [if_pos hs] at p1
      exact ⟨by rw [← b1.length]; exact hs, fun q hq => PN.newL p1 r1 hq b1⟩
    · rw [if_neg hs] at p1
      exact False.elim p1
end

/-! ### built-in functions and types by values -/
def RepsB (K : PySem.W.Frag) (J : Jd) (g : Gh) (H : Hp) : List D → List V → Prop
  | [], vs => vs = []
  | d :: ds, vs => ∃ v ws, vs = v :: ws ∧ RepB K J g H d v ∧ RepsB K J g H ds ws
theorem RepsB.step {K : PySem.W.Frag} {J : Jd} {g g' : Gh} {H H' : Hp} (st : Stp (cE J.lv) g H g' H') : ∀ {ds : List D} {vs : List V}, RepsB K J g H ds vs → RepsB K J g' H' ds vs
  | [], _, h => h
  | _ :: _, _, ⟨v, ws, e, h, r⟩ => ⟨v, ws, e, h.step st, RepsB.step st r⟩
def PBs (K : PySem.W.Frag) (J : Jd) (Γ : List Bool) (σ : L2.St) (sl : List (Option D)) (g : Gh) (H : Hp) (Q : List V → Hp → Prop) : Rx (List D) → Prop
  | .ok d S' => ∀ g' H' v, Stp (cE J.lv) g H g' H' → Rel K J.C Γ g' sl S' σ H' → RepsB K J g' H' d v → Q v H'
  | .err x S' => PErr K J Γ σ sl g H x S'
  | .stuck => False
def tBs (K : PySem.W.Frag) (J : Jd) (Γ : List Bool) (m : Mx (List D)) : TA := fun σ H Q => ∃ g sl S, Rel K J.C Γ g sl S σ H ∧ PBs K J Γ σ sl g H Q (m sl S)
def SBs (X : Cx) (J : Jd) (Γ : List Bool) (es : List Expr) (m : Mx (List D)) : Prop := PA X es (tBs X.K J Γ m)
section
variable {K : PySem.W.Frag} {J : Jd} {Γ : List Bool} {σ : L2.St} {sl : List (Option D)} {g : Gh} {H : Hp} {S : Sto}
theorem postBs {Q : List V → Hp → Prop} : Post K J Γ σ sl (fun g H r => PBs K J Γ σ sl g H Q r) := ⟨fun _ _ _ _ h => h, fun _ _ h => h, fun _ _ _ _ r s h => by
  cases r with
  | ok d S' => exact fun g' H' v s' r e => h g' H' v (s.trans s') r e
  | err x S' => exact PErr.step s h
  | stuck => exact h⟩
theorem chBs {β : Type} {P : Gh → Hp → Rx β → Prop} {m : Mx (List D)} {f : List D → Mx β} {R : List V → Hp → Prop} (hP : Post K J Γ σ sl P) (r : Rel K J.C Γ g sl S σ H) (h : P g H (bindX m f sl S))
    (k : ∀ g1 H1 d S1 x, Stp (cE J.lv) g H g1 H1 → Rel K J.C Γ g1 sl S1 σ H1 → RepsB K J g1 H1 d x → P g1 H1 (f d sl S1) → R x H1) : tBs K J Γ m σ H R := by
  refine ⟨g, sl, S, r, ?_⟩
  unfold bindX at h
  cases e : m sl S with
  | ok d S' =>
    rw [e] at h
    exact fun g' H' v s r' b => k g' H' d S' v s r' b (hP.step _ _ _ _ _ s h)
  | err x S' =>
    rw [e] at h
    exact hP.err _ _ _ _ h
  | stuck =>
    rw [e] at h
    exact hP.stuck _ _ h
end
def Cal (K : PySem.W.Frag) (r : List V → Hp → VK → Prop) (f : List D → Option D) : Prop := ∀ (J : Jd) (Γ : List Bool) (σ : L2.St) (sl : List (Option D)) (g : Gh) (H : Hp) (S : Sto) (Q : VK) (ds : List D) (z : D) (vs : List V),
  f ds = some z → Rel K J.C Γ g sl S σ H → RepsB K J g H ds vs → PD K J Γ σ sl g H Q (.ok z S) → r vs H Q
/-- .. the result fresh -/
def CalN (K : PySem.W.Frag) (r : List V → Hp → VK → Prop) (f : List D → Option D) : Prop := ∀ (J : Jd) (Γ : List Bool) (σ : L2.St) (sl : List (Option D)) (g : Gh) (H : Hp) (S : Sto) (Q : VK) (ds : List D) (z : D) (vs : List V),
  f ds = some z → Rel K J.C Γ g sl S σ H → RepsB K J g H ds vs → PN K J Γ σ sl g H Q (.ok z S) → r vs H Q
def mCal (f : List D → Option D) (m : Mx (List D)) : Mx D := bindX m fun ds => ofO (f ds)
section
variable {X : Cx} {J : Jd} {Γ : List Bool} {a b c e : Expr} {es : List Expr} {ma mb mc : Mx D} {ms : Mx (List D)} {p pos : Pos} {x : Str} {id T : String} {r : List V → Hp → VK → Prop} {f : List D → Option D}
theorem sbs_nil : SBs X J Γ [] mNil := PA.imp pa_nil fun σ H Q q => by
  obtain ⟨g, sl, S, rl, p⟩ := q
  exact p g H [] Stp.refl rl rfl
theorem sbs_cons (ha : SB X J Γ e ma) (hr : SBs X J Γ es ms) (hs : starEach (e :: es) X.env = (false, eval e X.env) :: starEach es X.env := by rfl) : SBs X J Γ (e :: es) (mCons ma ms) :=
  PA.imp (pa_cons ha hr hs) fun σ H Q q => by
    obtain ⟨g, sl, S, rl, p⟩ := q
    refine chB postBs rl p fun g1 H1 d S1 x st1 r1 b1 p1 => ?_
    refine chBs postBs r1 p1 fun g2 H2 ds S2 xs st2 r2 b2 p2 => ?_
    exact p2 g2 H2 (x :: xs) Stp.refl r2 ⟨x, xs, rfl, b1.step st2, b2⟩
theorem cal_run (hf : Cal X.K r f) {σ : L2.St} {H : Hp} {Q : VK} (q : tD X.K J Γ (mCal f ms) σ H Q) : tCB r (tBs X.K J Γ ms) σ H Q := by
  obtain ⟨g, sl, S, rl, p⟩ := tD_iff.mp q
  refine chBs postD rl p fun g1 H1 ds S1 xs st1 r1 b1 p1 => ?_
  obtain ⟨z, hz, p2⟩ := ofO_of postD p1
  exact hf J Γ σ sl g1 H1 S1 Q ds z xs hz r1 b1 p2
theorem calN_run (hf : CalN X.K r f) {σ : L2.St} {H : Hp} {Q : VK} (q : tNw X.K J Γ (mCal f ms) σ H Q) : tCB r (tBs X.K J Γ ms) σ H Q := by
  obtain ⟨g, sl, S, rl, p⟩ := tNw_iff.mp q
  refine chBs postN rl p fun g1 H1 ds S1 xs st1 r1 b1 p1 => ?_
  obtain ⟨z, hz, p2⟩ := ofO_of postN p1
  exact hf J Γ σ sl g1 H1 S1 Q ds z xs hz r1 b1 p2
theorem sd_calB (hc : CallR X (.builtin id) r) (hf : Cal X.K r f) (hm : X.mg x = none) (hv : bootBuiltins x = some (.builtin id)) (ha : SBs X J Γ (e :: es) ms) (hg : Gl X x := by rfl) (hn : x ≠ "__name__" := by decide) (hdb : (x == ("__debug__" : Str)) = false := by decide)
    (he : starEach (e :: es) X.env = (false, eval e X.env) :: starEach es X.env := by rfl) (hpl : (backTo pos (starEach es X.env)).any (·.1) = false := by rfl) : SD X J Γ (.Call (.Name x p) (e :: es) [] pos) (mCal f ms) :=
  PE.imp (pe_callB hc hg hm hv ha hn hdb he hpl) fun σ H Q q => cal_run hf q
theorem sd_calT (hc : CallR X (.type T) r) (hf : Cal X.K r f) (hm : X.mg x = none) (hv : bootBuiltins x = some (.type T)) (ha : SBs X J Γ (e :: es) ms) (hg : Gl X x := by rfl) (hn : x ≠ "__name__" := by decide) (hdb : (x == ("__debug__" : Str)) = false := by decide)
    (he : starEach (e :: es) X.env = (false, eval e X.env) :: starEach es X.env := by rfl) (hpl : (backTo pos (starEach es X.env)).any (·.1) = false := by rfl) : SD X J Γ (.Call (.Name x p) (e :: es) [] pos) (mCal f ms) :=
  PE.imp (pe_callTy hc hg hm hv ha hn hdb he hpl) fun σ H Q q => cal_run hf q
theorem sn_calB (hc : CallR X (.builtin id) r) (hf : CalN X.K r f) (hm : X.mg x = none) (hv : bootBuiltins x = some (.builtin id)) (ha : SBs X J Γ (e :: es) ms) (hg : Gl X x := by rfl) (hn : x ≠ "__name__" := by decide) (hdb : (x == ("__debug__" : Str)) = false := by decide)
    (he : starEach (e :: es) X.env = (false, eval e X.env) :: starEach es X.env := by rfl) (hpl : (backTo pos (starEach es X.env)).any (·.1) = false := by rfl) : SN X J Γ (.Call (.Name x p) (e :: es) [] pos) (mCal f ms) :=
  PE.imp (pe_callB hc hg hm hv ha hn hdb he hpl) fun σ H Q q => calN_run hf q
theorem sn_calT (hc : CallR X (.type T) r) (hf : CalN X.K r f) (hm : X.mg x = none) (hv : bootBuiltins x = some (.type T)) (ha : SBs X J Γ (e :: es) ms) (hg : Gl X x := by rfl) (hn : x ≠ "__name__" := by decide) (hdb : (x == ("__debug__" : Str)) = false := by decide)
    (he : starEach (e :: es) X.env = (false, eval e X.env) :: starEach es X.env := by rfl) (hpl : (backTo pos (starEach es X.env)).any (·.1) = false := by rfl) : SN X J Γ (.Call (.Name x p) (e :: es) [] pos) (mCal f ms) :=
  PE.imp (pe_callTy hc hg hm hv ha hn hdb he hpl) fun σ H Q q => calN_run hf q
end

/-! the functions -/
def toInts : List D → Option (List Int)
  | [] => some []
  | .int i :: r => (toInts r).map (i :: ·)
  | _ :: _ => none
def toStrs : List D → Option (List Str)
  | [] => some []
  | .str i :: r => (toStrs r).map (i :: ·)
  | _ :: _ => none
section
variable {K : PySem.W.Frag}
theorem reps_ints {C : Cfg} {G : Hp} {ρ : List Addr} : ∀ {ds : List D} {vs : List V} {ns : List Int}, toInts ds = some ns → Reps K C G ρ ds vs → vs = ns.map V.int
  | [], _, _, e, .nil => by cases e; rfl
  | d :: ds, _, _, e, .cons h r => by
    cases d <;> first | cases e | skip
    rename_i i
    obtain ⟨ms, e1, rfl⟩ := Option.map_eq_some_iff.mp e
    cases h
    rw [reps_ints e1 r]; rfl
theorem reps_strs {C : Cfg} {G : Hp} {ρ : List Addr} : ∀ {ds : List D} {vs : List V} {ns : List Str}, toStrs ds = some ns → Reps K C G ρ ds vs → vs = ns.map V.str
  | [], _, _, e, .nil => by cases e; rfl
  | d :: ds, _, _, e, .cons h r => by
    cases d <;> first | cases e | skip
    rename_i i
    obtain ⟨ms, e1, rfl⟩ := Option.map_eq_some_iff.mp e
    cases h
    rw [reps_strs e1 r]; rfl
/-- len -/
def kLen : List D → Option D
  | [.lst xs] => some (.int xs.length)
  | [.tup xs] => some (.int xs.length)
  | [.str z] => if z.length ≤ sizeLine then some (.int z.length) else none
  | _ => none
def rLenF (K : PySem.W.Frag) : List V → Hp → VK → Prop := fun xs H Q => (∃ p ys, xs = [.ref p] ∧ (SqL K H p ys ∨ SqT K H p ys) ∧ Q (.int ys.length) H) ∨ (∃ z, xs = [.str z] ∧ z.length ≤ sizeLine ∧ Q (.int z.length) H)
theorem CallR.or {X : Cx} {f : Value} {r r' : List V → Hp → VK → Prop} (h : CallR X f r) (h' : CallR X f r') : CallR X f (fun xs H Q => r xs H Q ∨ r' xs H Q) := fun pins s σ H xs us Q I rx q => q.elim (h pins s σ H xs us Q I rx) (h' pins s σ H xs us Q I rx)
theorem o_len {X : Cx} : CallR X (.builtin "len") (rLenF X.K) := call_len_seq.or call_len_str
theorem f_len : Cal K (rLenF K) kLen := by
  intro J Γ σ sl g H S Q ds z vs hz r b p
  unfold kLen at hz
  split at hz
  · cases hz
    obtain ⟨v, ws, rfl, b, rfl⟩ := b
    obtain ⟨a, us, rfl, s1, r1⟩ := b.lst r.sub
    exact .inl ⟨a, us, rfl, .inl s1, by rw [← r1.length]; exact PD.now p r (.int _)⟩
  · cases hz
    obtain ⟨v, ws, rfl, b, rfl⟩ := b
    obtain ⟨a, us, rfl, s1, r1⟩ := b.tup r.sub
    exact .inl ⟨a, us, rfl, .inr s1, by rw [← r1.length]; exact PD.now p r (.int _)⟩
  · split at hz
    · cases hz
      obtain ⟨v, ws, rfl, b, rfl⟩ := b
      exact .inr ⟨_, by rw [b.str], by assumption, PD.now p r (.int _)⟩
    · cases hz
  · cases hz
def kInt : List D → Option D
  | [.int i] => some (.int i)
  | [.bl b] => some (.int (if b then 1 else 0))
  | _ => none
def rIntF : List V → Hp → VK → Prop := fun xs H Q => (∃ i, xs = [.int i] ∧ Q (.int i) H) ∨ ∃ k, xs = [.bl k] ∧ Q (.int (if k = true then 1 else 0)) H
theorem o_int {X : Cx} : CallR X (.type "int") rIntF := call_int1
theorem f_int : Cal K rIntF kInt := by
  intro J Γ σ sl g H S Q ds z vs hz r b p
  unfold kInt at hz
  split at hz
  · cases hz
    obtain ⟨v, ws, rfl, b, rfl⟩ := b
    exact .inl ⟨_, by rw [b.int], PD.now p r (.int _)⟩
  · cases hz
    obtain ⟨v, ws, rfl, b, rfl⟩ := b
    exact .inr ⟨_, by rw [b.bl], PD.now p r (.int _)⟩
  · cases hz
/-- min, max of two ints -/
def kMin2 : List D → Option D
  | [.int i, .int j] => some (.int (if j < i then j else i))
  | _ => none
def kMax2 : List D → Option D
  | [.int i, .int j] => some (.int (if j > i then j else i))
  | _ => none
theorem f_min2 : Cal K (fun xs H Q => ∃ i j, xs = [.int i, .int j] ∧ Q (.int (if j < i then j else i)) H) kMin2 := by
  intro J Γ σ sl g H S Q ds z vs hz r b p
  unfold kMin2 at hz
  split at hz
  · cases hz
    obtain ⟨v, ws, rfl, b, w', ws', rfl, b', rfl⟩ := b
    exact ⟨_, _, by rw [b.int, b'.int], PD.now p r (.int _)⟩
  · cases hz
theorem f_max2 : Cal K (fun xs H Q => ∃ i j, xs = [.int i, .int j] ∧ Q (.int (if j > i then j else i)) H) kMax2 := by
  intro J Γ σ sl g H S Q ds z vs hz r b p
  unfold kMax2 at hz
  split at hz
  · cases hz
    obtain ⟨v, ws, rfl, b, w', ws', rfl, b', rfl⟩ := b
    exact ⟨_, _, by rw [b.int, b'.int], PD.now p r (.int _)⟩
  · cases hz
/-- sum of ints -/
def kSum : List D → Option D
  | [.lst xs] => (toInts xs).map fun ns => .int ns.sum
  | _ => none
theorem f_sum : Cal K (rSum K) kSum := by
  intro J Γ σ sl g H S Q ds z vs hz r b p
  unfold kSum at hz
  split at hz
  · obtain ⟨ns, hn, rfl⟩ := Option.map_eq_some_iff.mp hz
    obtain ⟨v, ws, rfl, b, rfl⟩ := b
    obtain ⟨a, us, rfl, s1, r1⟩ := b.lst r.sub
    rw [reps_ints hn r1] at s1
    exact ⟨a, ns, rfl, s1, PD.now p r (.int _)⟩
  · cases hz
/-- list(x), tuple(x) of a list or a tuple -/
def kList : List D → Option D
  | [.lst xs] => some (.lst xs)
  | [.tup xs] => some (.lst xs)
  | _ => none
def rListF (K : PySem.W.Frag) : List V → Hp → VK → Prop := fun xs H Q => ∃ p ys, xs = [.ref p] ∧ (SqL K H p ys ∨ SqT K H p ys) ∧ ∀ l, H l = none → Q (.ref l) (upd H l (.lst ys))
theorem o_list {X : Cx} : CallR X (.type "list") (rListF X.K) := call_list_of
theorem f_list : Cal K (rListF K) kList := by
  intro J Γ σ sl g H S Q ds z vs hz r b p
  unfold kList at hz
  split at hz <;> first | cases hz | skip
  · obtain ⟨v, ws, rfl, b, rfl⟩ := b
    obtain ⟨a, us, rfl, s1, r1⟩ := b.lst r.sub
    exact ⟨a, us, rfl, .inl s1, fun l hl => p.newL r hl r1⟩
  · obtain ⟨v, ws, rfl, b, rfl⟩ := b
    obtain ⟨a, us, rfl, s1, r1⟩ := b.tup r.sub
    exact ⟨a, us, rfl, .inr s1, fun l hl => p.newL r hl r1⟩
theorem fn_list : CalN K (rListF K) kList := by
  intro J Γ σ sl g H S Q ds z vs hz r b p
  unfold kList at hz
  split at hz <;> first | cases hz | skip
  · obtain ⟨v, ws, rfl, b, rfl⟩ := b
    obtain ⟨a, us, rfl, s1, r1⟩ := b.lst r.sub
    exact ⟨a, us, rfl, .inl s1, fun l hl => p.newL r hl r1⟩
  · obtain ⟨v, ws, rfl, b, rfl⟩ := b
    obtain ⟨a, us, rfl, s1, r1⟩ := b.tup r.sub
    exact ⟨a, us, rfl, .inr s1, fun l hl => p.newL r hl r1⟩
def kTuple : List D → Option D
  | [.lst xs] => some (.tup xs)
  | [.tup xs] => some (.tup xs)
  | _ => none
def rTupF (K : PySem.W.Frag) : List V → Hp → VK → Prop := fun xs H Q => ∃ p ys, xs = [.ref p] ∧ ((SqL K H p ys ∧ ∀ l, H l = none → Q (.ref l) (upd H l (.tup ys))) ∨ (SqT K H p ys ∧ Q (.ref p) H))
theorem o_tuple {X : Cx} : CallR X (.type "tuple") (rTupF X.K) := call_tuple_of
theorem f_tuple : Cal K (rTupF K) kTuple := by
  intro J Γ σ sl g H S Q ds z vs hz r b p
  unfold kTuple at hz
  split at hz <;> first | cases hz | skip
  · obtain ⟨v, ws, rfl, b, rfl⟩ := b
    obtain ⟨a, us, rfl, s1, r1⟩ := b.lst r.sub
    exact ⟨a, us, rfl, .inl ⟨s1, fun l hl => p.newT r hl r1⟩⟩
  · obtain ⟨v, ws, rfl, b, rfl⟩ := b
    rcases b with b | ⟨_, _, _, _, _, z⟩
    · have b' := b
      cases b with
      | @tup a1 vs1 _ s1 r1 => exact ⟨_, _, rfl, .inr ⟨sqT_mono r.sub s1, PD.now p r b'⟩⟩
    · exact False.elim z
end
end Sm
set_option Elab.async false
set_option linter.all false
set_option maxRecDepth 100000
set_option maxHeartbeats 1000000
/-! Sim 5: isinstance, what is walked, targets, comprehensions. -/
namespace Sm
open PySem PySem.Spec PyProof.Rows L2

/-! ### isinstance -/
inductive Ty where
  | int | bool | str | list | tuple | dict
def Ty.nm : Ty → String
  | .int => "int" | .bool => "bool" | .str => "str" | .list => "list" | .tuple => "tuple" | .dict => "dict"
def isi : Ty → D → Option Bool
  | _, .ref _ => none
  | _, .obj _ _ => none
  | .int, .int _ => some true
  | .int, .bl _ => some true
  | .bool, .bl _ => some true
  | .str, .str _ => some true
  | .list, .lst _ => some true
  | .tuple, .tup _ => some true
  | .dict, .dK _ => some true
  | .dict, .dT _ => some true
  | _, _ => some false
def dNm : D → String
  | .non => "NoneType" | .bl _ => "bool" | .int _ => "int" | .str _ => "str" | .lst _ => "list" | .tup _ => "tuple" | .dK _ => "dict" | .dT _ => "dict" | _ => ""
theorem isi_kit {T : Ty} {d : D} {b : Bool} (h : isi T d = some b) : kitB (dNm d) T.nm = some b := by
  cases d <;> cases T <;> first | (cases h; done) | (cases h; dsimp only [dNm, Ty.nm]; decide +kernel)
theorem isi_nm {T : Ty} {d : D} {b : Bool} (h : isi T d = some b) : dNm d ≠ "" := by
  cases d <;> first | (cases T <;> cases h <;> done) | (dsimp only [dNm]; decide)
theorem tyX_sqL {K : PySem.W.Frag} {H : Hp} {a : Addr} {vs : List V} (h : SqL K H a vs) : TyX K H (.ref a) (.type "list") := by
  rcases h with (h | ⟨o, h⟩) | ⟨o, its, n, h, hc, _⟩
  · exact .base (.lst h)
  · exact .base (.frz h)
  · exact .kList h hc
theorem tyX_sqT {K : PySem.W.Frag} {H : Hp} {a : Addr} {vs : List V} (h : SqT K H a vs) : TyX K H (.ref a) (.type "tuple") := by
  rcases h with (h | ⟨o, h⟩) | ⟨o, its, n, h, hc, _⟩
  · exact .base (.tup h)
  · exact .fTuple h
  · exact .kTuple h hc
theorem tyX_of {K : PySem.W.Frag} {J : Jd} {g : Gh} {H : Hp} {d : D} {v : V} (h : RepB K J g H d v) (hs : Same g.G H) (hd : dNm d ≠ "") : TyX K H v (.type (dNm d)) := by
  cases d with
  | non => cases h.non; exact .base .non
  | bl b => cases h.bl; exact .base (.bl b)
  | int b => cases h.int; exact .base (.int b)
  | str b => cases h.str; exact .base (.str b)
  | lst xs => obtain ⟨p, vs, rfl, s, _⟩ := h.lst hs; exact tyX_sqL s
  | tup xs => obtain ⟨p, vs, rfl, s, _⟩ := h.tup hs; exact tyX_sqT s
  | dK xs => obtain ⟨p, vs, rfl, s, _⟩ := h.dK hs; exact .base (.dK s)
  | dT xs =>
    rcases h with h | ⟨p, w, rfl, _, _, vs, e, _⟩
    · cases h with
      | dT a _ => exact .base (.dT (hs _ _ a))
    · exact .base (.dT e)
  | ref i => exact absurd rfl hd
  | obj c fs => exact absurd rfl hd
def fIsi (T : Ty) (d : D) : Option D := (isi T d).map .bl
section
variable {X : Cx} {J : Jd} {Γ : List Bool} {a b c e : Expr} {ma mb mc : Mx D} {p p2 pos : Pos}
theorem sd_isi (T : Ty) {x y : Str} (ha : SB X J Γ a ma) (hm : X.mg x = none) (hv : bootBuiltins x = some (.builtin "isinstance")) (hm2 : X.mg y = none) (hv2 : bootBuiltins y = some (.type T.nm)) (hg : Gl X x := by rfl) (hg2 : Gl X y := by rfl)
    (hn : x ≠ "__name__" := by decide) (hdb : (x == ("__debug__" : Str)) = false := by decide) (hn2 : y ≠ "__name__" := by decide) (hdb2 : (y == ("__debug__" : Str)) = false := by decide)
    (he : starEach [a, .Name y p2] X.env = (false, eval a X.env) :: starEach [.Name y p2] X.env := by rfl) (he2 : starEach [.Name y p2] X.env = (false, eval (.Name y p2) X.env) :: starEach [] X.env := by rfl) (hpl : (backTo pos (starEach [.Name y p2] X.env)).any (·.1) = false := by rfl) :
    SD X J Γ (.Call (.Name x p) [a, .Name y p2] [] pos) (mUn (fIsi T) ma) :=
  PE.imp (pe_callB (call_isi (X := X)) hg hm hv (pa_cons ha (pa_cons (pe_bltn (v := .ty T.nm) hg2 hm2 hv2 rfl hn2 hdb2) pa_nil he2) he) hn hdb he hpl) fun σ H Q q => by
    obtain ⟨g, sl, S, rl, p⟩ := tD_iff.mp q
    refine chB postD rl p fun g1 H1 d S1 x st1 r1 b1 p1 => ?_
    obtain ⟨z, hz, p2⟩ := ofO_of postD p1
    obtain ⟨k, hk, rfl⟩ := Option.map_eq_some_iff.mp hz
    exact ⟨x, .ty T.nm, .type (dNm d), .type T.nm, k, rfl, .ty _, tyX_of b1 r1.sub (isi_nm hk), kit_ty (isi_kit hk), PD.now p2 r1 (.bl _)⟩
end

/-! ### what is walked -/
/-- the walk gives ds, whatever happens that c allows -/
def WalkD (K : PySem.W.Frag) (C : Cfg) (c : Ow → Bool) (g : Gh) (H : Hp) (Jt : It) (ds : List D) : Prop :=
  ∃ (Gp : Hp → Prop) (Y : Nat → Hp → V → Hp → Prop), Walk Jt ds.length Gp Y ∧ (∀ g1 H1, Stp c g H g1 H1 → Same g1.G H1 → Gp H1) ∧
    ∀ i g1 H1 x H2 S d, Stp c g H g1 H1 → StoOk K C g1 H1 S → ds[i]? = some d → Y i H1 x H2 → ∃ g2, Stp (cE false) g1 H1 g2 H2 ∧ StoOk K C g2 H2 S ∧ Rep K C g2.G g2.ρ d x
def PI' (K : PySem.W.Frag) (J : Jd) (c : Ow → Bool) (Γ : List Bool) (σ : L2.St) (sl : List (Option D)) (g : Gh) (H : Hp) (R : It → Hp → Prop) : Rx (List D) → Prop
  | .ok ds S' => ∀ g' H' Jt, Stp (cE J.lv) g H g' H' → Rel K J.C Γ g' sl S' σ H' → WalkD K J.C c g' H' Jt ds → R Jt H'
  | .err x S' => PErr K J Γ σ sl g H x S'
  | .stuck => False
def tI (K : PySem.W.Frag) (J : Jd) (c : Ow → Bool) (Γ : List Bool) (m : Mx (List D)) : TI := fun σ H R => ∃ g sl S, Rel K J.C Γ g sl S σ H ∧ PI' K J c Γ σ sl g H R (m sl S)
def SI (X : Cx) (J : Jd) (c : Ow → Bool) (Γ : List Bool) (tg e : Expr) (m : Mx (List D)) : Prop := PI X tg e (tI X.K J c Γ m)
theorem PI.imp {X : Cx} {tg e : Expr} {t t' : TI} (h : PI X tg e t) (k : ∀ σ H Q, t' σ H Q → t σ H Q) : PI X tg e t' := ⟨fun pins s σ H Q I q => h.run pins s σ H Q I (k σ H Q q)⟩
theorem postI {K : PySem.W.Frag} {J : Jd} {c : Ow → Bool} {Γ : List Bool} {σ : L2.St} {sl : List (Option D)} {R : It → Hp → Prop} : Post K J Γ σ sl (fun g H r => PI' K J c Γ σ sl g H R r) := ⟨fun _ _ _ _ h => h, fun _ _ h => h, fun _ _ _ _ r s h => by
  cases r with
  | ok d S' => exact fun g' H' v s' r e => h g' H' v (s.trans s') r e
  | err x S' => exact PErr.step s h
  | stuck => exact h⟩
/-- a list or a tuple -/
def iSeq (K : PySem.W.Frag) (tl : TE) : TI := fun σ H R => tl σ H fun x H1 => (∃ a xs, x = .ref a ∧ SqL K H1 a xs ∧ R (Itl K a) H1) ∨ (∃ a xs, x = .ref a ∧ SqT K H1 a xs ∧ R (Itt K a) H1)
theorem pi_seq {X : Cx} {tg l : Expr} {tl : TE} (hl : PE X l tl) : PI X tg l (iSeq X.K tl) := by
  refine ⟨fun pins s σ H R I h => thn (hl.run pins s σ H _ I h) fun v s1 ⟨x, H1, I1, r1, q1⟩ => ?_⟩
  rcases q1 with ⟨a, xs, e, hq, q⟩ | ⟨a, xs, e, hq, q⟩ <;> subst e <;> cases r1
  · obtain ⟨its, _, pl, _⟩ := I1.list hq
    exact wpAny_pyIter_list pl.isList (pi_one (tk := s1.toks) I1 _ (turn_list a _) ⟨_, Heap.get?_push_size _ rfl, rfl, rfl⟩ q)
  · obtain ⟨its, _, pl, _⟩ := I1.tuple hq
    exact wpAny_pyIter_tuple pl (pi_one (tk := s1.toks) I1 _ (turn_tuple a _) ⟨_, Heap.get?_push_size _ rfl, rfl, rfl⟩ q)
theorem walkD_list {K : PySem.W.Frag} {C : Cfg} {c : Ow → Bool} {g : Gh} {H : Hp} {a : Addr} {xs : List V} {ds : List D} (h : ∀ g1 H1, Stp c g H g1 H1 → Same g1.G H1 → SqL K H1 a xs) (r : Reps K C g.G g.ρ ds xs) : WalkD K C c g H (Itl K a) ds := by
  refine ⟨fun H => SqL K H a xs, YAt xs, by rw [r.length]; exact walk_list, h, fun i g1 H1 x H2 S d st s e y => ?_⟩
  obtain ⟨rfl, y⟩ := y
  obtain ⟨v, h1, h2⟩ := r.get e
  rw [h1] at y; cases y
  exact ⟨g1, Stp.refl, s, h2.step st⟩
theorem walkD_tup {K : PySem.W.Frag} {C : Cfg} {c : Ow → Bool} {g : Gh} {H : Hp} {a : Addr} {xs : List V} {ds : List D} (h : ∀ g1 H1, Stp c g H g1 H1 → Same g1.G H1 → SqT K H1 a xs) (r : Reps K C g.G g.ρ ds xs) : WalkD K C c g H (Itt K a) ds := by
  refine ⟨fun H => SqT K H a xs, YAt xs, by rw [r.length]; exact walk_tup, h, fun i g1 H1 x H2 S d st s e y => ?_⟩
  obtain ⟨rfl, y⟩ := y
  obtain ⟨v, h1, h2⟩ := r.get e
  rw [h1] at y; cases y
  exact ⟨g1, Stp.refl, s, h2.step st⟩
def itD : D → Option (List D)
  | .lst xs => some xs
  | .tup xs => some xs
  | _ => none
def mSeq (m : Mx D) : Mx (List D) := bindX m fun d => ofO (itD d)
def mRng (f : List D → Option (List D)) (m : Mx (List D)) : Mx (List D) := bindX m fun ds => ofO (f ds)
def rng (lo : Int) (n : Nat) : List D := (List.range n).map fun (k : Nat) => .int (lo + k)
def inR (i : Int) : Bool := decide (-(2 ^ 62) ≤ i ∧ i < 2 ^ 62)
def kRng1 : List D → Option (List D)
  | [.int j] => if inR j = true then some (rng 0 j.toNat) else none
  | _ => none
def kRng2 : List D → Option (List D)
  | [.int i, .int j] => if inR i = true ∧ inR j = true then some (rng i (j - i).toNat) else none
  | _ => none
theorem walkD_range {K : PySem.W.Frag} {C : Cfg} {c : Ow → Bool} {g : Gh} {H : Hp} {lo : Int} {n : Nat} : WalkD K C c g H (Itr lo n) (rng lo n) := by
  refine ⟨fun _ => True, YFn fun i => .int (lo + i), by unfold rng; rw [List.length_map, List.length_range]; exact walk_range, fun _ _ _ _ => trivial, fun i g1 H1 x H2 S d st s e y => ?_⟩
  obtain ⟨rfl, rfl⟩ := y
  unfold rng at e
  rw [List.getElem?_map] at e
  cases q : (List.range n)[i]? with
  | none => rw [q] at e; cases e
  | some k =>
    rw [q] at e; cases e
    obtain ⟨h1, h2⟩ := List.getElem?_eq_some_iff.mp q
    have : k = i := by rw [← h2, List.getElem_range]
    subst this
    exact ⟨g1, Stp.refl, s, .int _⟩
section
variable {X : Cx} {J : Jd} {Γ : List Bool} {c : Ow → Bool} {tg a b e : Expr} {ma mb mc : Mx D} {ms : Mx (List D)} {p p2 pos : Pos}
theorem si_seq (h : SD X J Γ e ma) : SI X J c Γ tg e (mSeq ma) := PI.imp (pi_seq h) fun σ H R q => by
  obtain ⟨g, sl, S, rl, p⟩ := q
  refine chD postI rl p fun g1 H1 d S1 x st1 r1 b1 p1 => ?_
  obtain ⟨z, hz, p2⟩ := ofO_of postI p1
  cases d <;> first | cases hz | skip
  · cases b1 with
    | lst s r => exact .inl ⟨_, _, rfl, sqL_mono r1.sub s, p2 g1 H1 _ Stp.refl r1 (walkD_list (fun g2 H2 st ss => sqL_mono ss (sqL_mono st.gG s)) r)⟩
  · cases b1 with
    | tup s r => exact .inr ⟨_, _, rfl, sqT_mono r1.sub s, p2 g1 H1 _ Stp.refl r1 (walkD_tup (fun g2 H2 st ss => sqT_mono ss (sqT_mono st.gG s)) r)⟩
theorem si_seqB (h : SB X J Γ e ma) : SI X J (cE J.lv) Γ tg e (mSeq ma) := PI.imp (pi_seq h) fun σ H R q => by
  obtain ⟨g, sl, S, rl, p⟩ := q
  refine chB postI rl p fun g1 H1 d S1 x st1 r1 b1 p1 => ?_
  obtain ⟨z, hz, p2⟩ := ofO_of postI p1
  rcases b1 with b1 | ⟨a, w, rfl, hw, hc, cl⟩
  · cases d <;> first | cases hz | skip
    · cases b1 with
      | lst s r => exact .inl ⟨_, _, rfl, sqL_mono r1.sub s, p2 g1 H1 _ Stp.refl r1 (walkD_list (fun g2 H2 st ss => sqL_mono ss (sqL_mono st.gG s)) r)⟩
    · cases b1 with
      | tup s r => exact .inr ⟨_, _, rfl, sqT_mono r1.sub s, p2 g1 H1 _ Stp.refl r1 (walkD_tup (fun g2 H2 st ss => sqT_mono ss (sqT_mono st.gG s)) r)⟩
  · cases d <;> first | exact False.elim cl | cases hz | skip
    obtain ⟨vs, e, r⟩ := cl
    exact .inl ⟨a, vs, rfl, .of e, p2 g1 H1 _ Stp.refl r1 (walkD_list (fun g2 H2 st ss => .of (st.fr a _ e fun w' hw' => by rw [hw] at hw'; cases hw'; exact hc)) r)⟩
theorem si_range1 (h : SDs X J Γ [a] ms) (hm : X.mg "range" = none) (hg : Gl X "range" := by rfl) (hs : starEach [a] X.env = [(false, eval a X.env)] := by rfl) : SI X J c Γ tg (.Call (.Name "range" p) [a] [] pos) (mRng kRng1 ms) :=
  PI.imp (pi_range1 hg hm h hs) fun σ H R q => by
    obtain ⟨g, sl, S, rl, p⟩ := q
    refine chDs postI rl p fun g1 H1 ds S1 xs st1 r1 b1 p1 => ?_
    obtain ⟨z, hz, p2⟩ := ofO_of postI p1
    unfold kRng1 at hz
    split at hz
    · split at hz
      · rename_i hj
        cases hz
        cases b1 with
        | cons h1 h2 =>
          cases h1; cases h2
          exact ⟨_, rfl, (of_decide_eq_true hj).1, (of_decide_eq_true hj).2, p2 g1 H1 _ Stp.refl r1 walkD_range⟩
      · cases hz
    · cases hz
theorem si_range2 (h : SDs X J Γ [a, b] ms) (hm : X.mg "range" = none) (hg : Gl X "range" := by rfl) (hs : starEach [a, b] X.env = [(false, eval a X.env), (false, eval b X.env)] := by rfl) (hs2 : starEach [b] X.env = [(false, eval b X.env)] := by rfl) : SI X J c Γ tg (.Call (.Name "range" p) [a, b] [] pos) (mRng kRng2 ms) :=
  PI.imp (pi_range2 hg hm h hs hs2) fun σ H R q => by
    obtain ⟨g, sl, S, rl, p⟩ := q
    refine chDs postI rl p fun g1 H1 ds S1 xs st1 r1 b1 p1 => ?_
    obtain ⟨z, hz, p2⟩ := ofO_of postI p1
    unfold kRng2 at hz
    split at hz
    · split at hz
      · rename_i hj
        cases hz
        cases b1 with
        | cons h1 h2 =>
          cases h2 with
          | cons h3 h4 =>
            cases h1; cases h3; cases h4
            have h1 := of_decide_eq_true hj.1
            have h2 := of_decide_eq_true hj.2
            exact ⟨_, _, rfl, ⟨h1.1, h1.2, h2.1, h2.2⟩, p2 g1 H1 _ Stp.refl r1 walkD_range⟩
      · cases hz
    · cases hz
end

/-! ### targets -/
/-- only the slots vs differ -/
def SetOnly (vs : List Nat) (σ σ' : L2.St) : Prop := σ'.length = σ.length ∧ ∀ j, j ∉ vs → σ'[j]? = σ[j]?
abbrev Tg := D → List (Option D) → Option (List (Option D))
def STg (X : Cx) (C : Cfg) (Γ Γ' : List Bool) (vs : List Nat) (tg : Expr) (t : Tg) (gt : TG) : Prop := PG X tg gt ∧ ∀ (g : Gh) (sl sl' : List (Option D)) (S : Sto) (σ : L2.St) (H : Hp) (d : D) (v : V) (Q : L2.St → Hp → Prop),
  Rel X.K C Γ g sl S σ H → Rep X.K C g.G g.ρ d v → t d sl = some sl' → (∀ σ', SetOnly vs σ σ' → Rel X.K C Γ' g sl' S σ' H → Q σ' H) → gt v σ H Q
def tName (i : Nat) : Tg := fun d sl => if i < sl.length then some (sl.set i (some d)) else none
def setsD : List Nat → List D → List (Option D) → Option (List (Option D))
  | [], [], sl => some sl
  | i :: is, d :: ds, sl => if i < sl.length then setsD is ds (sl.set i (some d)) else none
  | _, _, _ => none
def tTupN (is : List Nat) : Tg := fun d sl => match d with
  | .tup ds => setsD is ds sl
  | _ => none
theorem cau_set {sl : List (Option D)} {σ : L2.St} {i j : Nat} {d : D} {v : Option V} {a : Addr} (h : sl[j]? = some none → σ[j]? = some (some (.ref a))) (hj : (sl.set i (some d))[j]? = some none) : (σ.set i v)[j]? = some (some (.ref a)) := by
  by_cases z : i = j
  · subst z
    have hi : i < sl.length := by
      have := (List.getElem?_eq_some_iff.mp hj).1
      rw [List.length_set] at this; exact this
    rw [List.getElem?_set_self hi] at hj
    cases hj
  · rw [List.getElem?_set_ne z] at hj ⊢
    exact h hj
theorem rel_set {K : PySem.W.Frag} {C : Cfg} {Γ : List Bool} {g : Gh} {sl : List (Option D)} {S : Sto} {σ : L2.St} {H : Hp} {i : Nat} {d : D} {v : V} (r : Rel K C Γ g sl S σ H) (h : Rep K C g.G g.ρ d v) (hΓ : Γ.getD i false = false) : Rel K C Γ g (sl.set i (some d)) S (σ.set i (some v)) H := by
  refine ⟨r.sto, by rw [List.length_set, List.length_set]; exact r.len, fun j e q hj => ?_, fun j e q hj => ?_, fun c q => ⟨fun hj => ?_, (r.cau c q).2⟩⟩
  · by_cases z : i = j
    · subst z
      have hi : i < sl.length := by
        have := (List.getElem?_eq_some_iff.mp q).1
        rw [List.length_set] at this; exact this
      rw [List.getElem?_set_self hi] at q
      cases q
      exact ⟨v, by rw [List.getElem?_set_self (by rw [← r.len]; exact hi)], h⟩
    · rw [List.getElem?_set_ne z] at q
      obtain ⟨u, h1, h2⟩ := r.slF j e q hj
      exact ⟨u, by rw [List.getElem?_set_ne z]; exact h1, h2⟩
  · by_cases z : i = j
    · subst z; rw [hΓ] at hj; cases hj
    · rw [List.getElem?_set_ne z] at q
      obtain ⟨u, h1, h2⟩ := r.slO j e q hj
      exact ⟨u, by rw [List.getElem?_set_ne z]; exact h1, h2⟩
  · exact cau_set (r.cau c q).1 hj
theorem setOnly_set {vs : List Nat} {σ : L2.St} {i : Nat} {v : Option V} (hi : i ∈ vs) : SetOnly vs σ (σ.set i v) := ⟨List.length_set .., fun j hj => List.getElem?_set_ne fun (z : i = j) => hj (z ▸ hi)⟩
theorem SetOnly.trans {vs : List Nat} {σ σ1 σ2 : L2.St} (a : SetOnly vs σ σ1) (b : SetOnly vs σ1 σ2) : SetOnly vs σ σ2 := ⟨b.1.trans a.1, fun j hj => (b.2 j hj).trans (a.2 j hj)⟩
section
variable {X : Cx} {C : Cfg} {Γ : List Bool} {pos : Pos}
theorem tg_name (i : Nat) {x : Str} (hN : X.N.Nodup) (hΓ : Γ.getD i false = false := by rfl) (hi : X.N[i]? = some x := by rfl) (hx : Loc X.env.scope x := by first | exact Or.inl rfl | exact Or.inr rfl)
    (hf : X.fn x = true ∨ X.env.scope.names.lookup x = some .local := by first | exact .inl rfl | exact .inr rfl | assumption) : STg X C Γ Γ [i] (.Name x pos) (tName i) (gName i) :=
  ⟨pg_name hN hi hx hf, fun g sl sl' S σ H d v Q r h e k => by
    unfold tName at e
    split at e
    · cases e
      exact k _ (setOnly_set (by simp)) (rel_set r h hΓ)
    · cases e⟩
/-- a tuple of names -/
inductive SNs (X : Cx) (Γ : List Bool) : List Expr → List Nat → TGs → Prop
  | nil : SNs X Γ [] [] gNil
  | cons {e : Expr} {es : List Expr} {i : Nat} {is : List Nat} {u : TGs} (h1 : PG X e (gName i)) (hΓ : Γ.getD i false = false) (h2 : SNs X Γ es is u) (hs : (assignEach (e :: es) X.env).map (·.2) = assign e X.env :: (assignEach es X.env).map (·.2)) : SNs X Γ (e :: es) (i :: is) (gCons (gName i) u)
theorem SNs.pgs {es : List Expr} {is : List Nat} {u : TGs} (h : SNs X Γ es is u) : PGs X es u := by
  induction h with
  | nil => exact pgs_nil
  | cons h1 _ _ hs ih => exact pgs_cons h1 ih hs
theorem SNs.run {es : List Expr} {is : List Nat} {u : TGs} (h : SNs X Γ es is u) {all : List Nat} (ha : ∀ i ∈ is, i ∈ all) : ∀ (g : Gh) (sl sl' : List (Option D)) (S : Sto) (σ : L2.St) (H : Hp) (ds : List D) (vs : List V) (Q : L2.St → Hp → Prop),
    Rel X.K C Γ g sl S σ H → Reps X.K C g.G g.ρ ds vs → setsD is ds sl = some sl' → (∀ σ', SetOnly all σ σ' → Rel X.K C Γ g sl' S σ' H → Q σ' H) → u vs σ H Q := by
  induction h with
  | nil =>
    intro g sl sl' S σ H ds vs Q r rp e k
    cases rp with
    | nil => cases e; exact ⟨rfl, k σ ⟨rfl, fun _ _ => rfl⟩ r⟩
    | cons _ _ => cases e
  | @cons e es i is u h1 hΓ h2 hs ih =>
    intro g sl sl' S σ H ds vs Q r rp e k
    cases rp with
    | nil => cases e
    | @cons d v ds vs hd hr =>
      unfold setsD at e
      split at e
      · refine ⟨v, vs, rfl, ?_⟩
        refine ih (fun j hj => ha j (List.mem_cons_of_mem _ hj)) g _ sl' S _ H ds vs Q (rel_set r hd hΓ) hr e fun σ' s' r' => k σ' ((setOnly_set (ha i List.mem_cons_self)).trans s') r'
      · cases e
theorem tg_tup {es : List Expr} {is : List Nat} {u : TGs} {k : Nat} (hc : X.calm = true) (h : SNs X Γ es is u) (hn : (assignEach es X.env).length = is.length := by rfl) (hst : (assignEach es X.env).findIdx? (·.1) = none := by rfl) : STg X C Γ Γ is (.Tuple es k pos) (tTupN is) (gTup X.K is.length u) :=
  ⟨pg_tup hc h.pgs hn hst, fun g sl sl' S σ H d v Q r hd e k => by
    unfold tTupN at e
    split at e
    · rename_i ds
      cases hd with
      | @tup a vs _ s rp =>
        refine ⟨a, vs, rfl, sqT_mono r.sto.sub s, ?_, h.run (fun _ hi => hi) g sl sl' S σ H ds vs Q r rp e k⟩
        rw [← rp.length]
        clear k s rp hc h hn hst
        have : ∀ (is : List Nat) (ds : List D) (sl : List (Option D)), setsD is ds sl = some sl' → ds.length = is.length := by
          intro is
          induction is with
          | nil => intro ds sl e; cases ds with
            | nil => rfl
            | cons _ _ => cases e
          | cons i is ih => intro ds sl e; cases ds with
            | nil => cases e
            | cons d ds =>
              unfold setsD at e
              split at e
              · rw [List.length_cons, List.length_cons, ih ds _ e]
              · cases e
        exact this is ds sl e
    · cases e⟩
end

/-! ### list comprehensions -/
def wipeD (sl : List (Option D)) : List Nat → List (Option D)
  | [] => sl
  | v :: vs => (wipeD sl vs).set v none
theorem wipeD_length (sl : List (Option D)) : ∀ vs : List Nat, (wipeD sl vs).length = sl.length
  | [] => rfl
  | v :: vs => by unfold wipeD; rw [List.length_set, wipeD_length sl vs]
theorem wipeD_get {sl : List (Option D)} {i : Nat} {d : D} : ∀ {vs : List Nat}, (wipeD sl vs)[i]? = some (some d) → sl[i]? = some (some d) ∧ i ∉ vs
  | [], h => ⟨h, by simp⟩
  | v :: vs, h => by
    unfold wipeD at h
    by_cases z : v = i
    · subst z
      by_cases hv : v < (wipeD sl vs).length
      · rw [List.getElem?_set_self hv] at h; cases h
      · rw [List.getElem?_eq_none (by rw [List.length_set]; omega)] at h; cases h
    · rw [List.getElem?_set_ne z] at h
      obtain ⟨h1, h2⟩ := wipeD_get h
      exact ⟨h1, fun hm => (List.mem_cons.mp hm).elim (fun q => z q.symm) h2⟩
theorem wipe_get {σ : L2.St} {i : Nat} : ∀ {vs : List Nat}, i ∉ vs → (wipe σ vs)[i]? = σ[i]?
  | [], _ => rfl
  | v :: vs, h => by
    unfold wipe
    rw [List.getElem?_set_ne (fun z => h (by rw [z]; exact List.mem_cons_self)), wipe_get fun q => h (List.mem_cons_of_mem _ q)]
theorem wipe_none {σ : L2.St} {i : Nat} : ∀ {vs : List Nat}, i ∈ vs → i < σ.length → (wipe σ vs)[i]? = some none
  | v :: vs, h, hl => by
    unfold wipe
    by_cases z : v = i
    · subst z
      rw [List.getElem?_set_self (by rw [wipe_length]; exact hl)]
    · rw [List.getElem?_set_ne z]
      exact wipe_none ((List.mem_cons.mp h).resolve_left fun q => z q.symm) hl
theorem wipe_wipe {vs : List Nat} {σ σ' : L2.St} (h : SetOnly vs (wipe σ vs) σ') : wipe σ' vs = wipe σ vs := by
  have hl : σ'.length = σ.length := by rw [h.1, wipe_length]
  refine List.ext_getElem? fun j => ?_
  by_cases hj : j ∈ vs
  · by_cases hlt : j < σ.length
    · rw [wipe_none hj (by rw [hl]; exact hlt), wipe_none hj hlt]
    · rw [List.getElem?_eq_none (by rw [wipe_length]; omega), List.getElem?_eq_none (by rw [wipe_length]; omega)]
  · rw [wipe_get hj, h.2 j hj]
theorem rel_wipe {K : PySem.W.Frag} {C : Cfg} {Γ : List Bool} {g : Gh} {sl : List (Option D)} {S : Sto} {σ : L2.St} {H : Hp} (hca : C.cau = none) (r : Rel K C Γ g sl S σ H) (vs : List Nat) : Rel K C Γ g (wipeD sl vs) S (wipe σ vs) H :=
  ⟨r.sto, by rw [wipeD_length, wipe_length]; exact r.len, fun i d e q => by
    obtain ⟨h1, h2⟩ := wipeD_get e
    obtain ⟨v, k1, k2⟩ := r.slF i d h1 q
    exact ⟨v, by rw [wipe_get h2]; exact k1, k2⟩, fun i d e q => by
    obtain ⟨h1, h2⟩ := wipeD_get e
    obtain ⟨v, k1, k2⟩ := r.slO i d h1 q
    exact ⟨v, by rw [wipe_get h2]; exact k1, k2⟩, fun c q => by rw [hca] at q; cases q⟩

/-- an own exception may not leave a comprehension: the wish is False there -/
abbrev Jd.blk (J : Jd) : Jd := { J with W := fun _ _ _ _ => False }
def loopC (t : Tg) (tt : Mx Bool) (el : Mx D) (slw : List (Option D)) : List D → List D → Sto → Rx (List D)
  | [], acc, S => .ok acc S
  | d :: ds, acc, S => match t d slw with
    | none => .stuck
    | some sl' => match tt sl' S with
      | .ok true S1 => match el sl' S1 with
        | .ok y S2 => if acc.length < sizeLine then loopC t tt el slw ds (acc ++ [y]) S2 else .stuck
        | _ => .stuck
      | .ok false S1 => loopC t tt el slw ds acc S1
      | _ => .stuck
def mYes : Mx Bool := pureX true
def mLc (src : Mx (List D)) (t : Tg) (tt : Mx Bool) (el : Mx D) (vs : List Nat) : Mx D := fun sl S => match src sl S with
  | .ok ds S1 => match loopC t tt el (wipeD sl vs) ds [] S1 with
    | .ok ys S2 => .ok (.lst ys) S2
    | _ => .stuck
  | .err x S1 => .err x S1
  | .stuck => .stuck
/-- the tests of a comprehension -/
def STs (X : Cx) (J : Jd) (Γ : List Bool) (ifs : List Expr) (m : Mx Bool) (t : TT) : Prop := PTs X ifs t ∧ ∀ σ H Q, tDb X.K J Γ m σ H Q → t σ H Q
section
variable {X : Cx} {J : Jd} {Γ : List Bool} {e elt tg iter : Expr} {ta : Mx Bool}
theorem sts_nil : STs X J Γ [] mYes tYes := ⟨pts_nil, fun σ H Q q => by
  obtain ⟨g, sl, S, r, p⟩ := tDb_iff.mp q
  exact p g H Stp.refl r⟩
theorem sts_one (h : ST X J Γ e ta) : STs X J Γ [e] ta (tDb X.K J Γ ta) := ⟨pts_one h, fun _ _ _ q => q⟩

/-- the new list grows at Da while all else goes on -/
theorem lc_run {K : PySem.W.Frag} {σ : L2.St} {sl : List (Option D)} {g : Gh} {H : Hp} {S S' : Sto} {wi : TI} {gt : TG} {tt : TT} {te : TE} {vs : List Nat} {t : Tg} {mt : Mx Bool} {me : Mx D} {ds ys : List D} {Jt : It} {Q : VK} {C : Cfg} {W : WX} {lv : Bool} {Γ Γ' : List Bool} {Da : Addr} (hca : C.cau = none)
    (hw : WalkD K C (cE lv) g H Jt ds) (r : Rel K C Γ g sl S σ H) (hD : H Da = none)
    (hg : ∀ (g : Gh) (sl sl' : List (Option D)) (S : Sto) (σ : L2.St) (H : Hp) (d : D) (v : V) (Q : L2.St → Hp → Prop), Rel K C Γ g sl S σ H → Rep K C g.G g.ρ d v → t d sl = some sl' → (∀ σ', SetOnly vs σ σ' → Rel K C Γ' g sl' S σ' H → Q σ' H) → gt v σ H Q)
    (ht : ∀ σ H Q, tDb K ⟨C, fun _ _ _ _ => False, lv⟩ Γ' mt σ H Q → tt σ H Q) (he : ∀ σ H Q, tD K ⟨C, fun _ _ _ _ => False, lv⟩ Γ' me σ H Q → te σ H Q)
    (hl : loopC t mt me (wipeD sl vs) ds [] S = .ok ys S') (hQ : ∀ g' H' zs, Stp (cE lv) g H g' H' → StoOk K C g' H' S' → H' Da = some (.lst zs) → g'.own Da = none → g'.G Da = none → Reps K C g'.G g'.ρ ys zs → Q (.ref Da) H') :
    ∃ W : Nat → Nat → Hp → Prop, (∃ m, W 0 m (upd H Da (.lst []))) ∧ ∀ i m H, W i m H →
      (Jt.stop i H ∧ Q (.ref Da) H) ∨ (Jt.go i H ∧ ∃ Nx : Hp → Prop, (∀ H', Nx H' → ∃ m', m' < m ∧ W (i + 1) m' H') ∧ ∀ x H', Jt.yld i H x H' → gt x (wipe σ vs) H' fun σ2 H2 => wipe σ2 vs = wipe σ vs ∧ tt σ2 H2 fun b H3 =>
        if b = true then te σ2 H3 fun y H4 => ∃ acc, H4 Da = some (.lst acc) ∧ acc.length < sizeLine ∧ Nx (upd H4 Da (.lst (acc ++ [y]))) else Nx H3) := by
  obtain ⟨Gp, Y, w, hG, hY⟩ := hw
  have up : ∀ {g1 : Gh} {H1 : Hp} {zs ws : List V}, H1 Da = some (.lst zs) → g1.own Da = none → g1.G Da = none → Stp (cE lv) g H g1 H1 → Stp (cE lv) g H g1 (upd H1 Da (.lst ws)) := fun {g1 H1 zs ws} e1 e2 e3 st =>
    ⟨st.gG, fun a o h hc => by rw [upd_ne (ne_of_none h hD)]; exact st.fr a o h hc, fun a h => by
      by_cases z : a = Da
      · rw [z]; exact hD
      · rw [upd_ne z] at h; exact st.lv a h, st.ow, st.nw, st.ng, st.ro⟩
  have up2 : ∀ {g1 : Gh} {H1 : Hp} {zs ws : List V} {S1 : Sto}, H1 Da = some (.lst zs) → g1.own Da = none → g1.G Da = none → StoOk K C g1 H1 S1 → StoOk K C g1 (upd H1 Da (.lst ws)) S1 := fun {g1 H1 zs ws S1} e1 e2 e3 s => by
    have ne : ∀ {a w}, g1.own a = some w → a ≠ Da := fun {a w} h z => by rw [z, e2] at h; cases h
    refine sto_keep s (fun a o h => ?_) rfl (Same.refl _) (fun a w h => ⟨(s.fro a w h).1, by rw [upd_ne (ne h)]; exact (s.fro a w h).2⟩) fun a w h _ => ⟨h, by rw [upd_ne (ne h)]⟩
    have z : a ≠ Da := fun z => by rw [z, e3] at h; cases h
    rw [upd_ne z]; exact s.sub a o h
  refine lc_it w (fun i H1 => ∃ g1 S1 acc zs, Stp (cE lv) g H g1 H1 ∧ StoOk K C g1 H1 S1 ∧ H1 Da = some (.lst zs) ∧ g1.own Da = none ∧ g1.G Da = none ∧ Reps K C g1.G g1.ρ acc zs ∧ loopC t mt me (wipeD sl vs) (ds.drop i) acc S1 = .ok ys S')
    ?_ ?_ ?_ ?_
  · have own : g.own Da = none := by
      cases q : g.own Da with
      | none => rfl
      | some w => exact absurd hD (r.sto.fro _ _ q).2
    exact ⟨g, S, [], [], stp_new hD, sto_new r.sto hD, upd_same, own, r.sto.sub.free hD, .nil, hl⟩
  · rintro i H1 _ ⟨g1, S1, acc, zs, st, s1, _⟩
    exact hG g1 H1 st s1.sub
  · rintro i x H1 H2 hi ⟨g1, S1, acc, zs, st, s1, e1, e2, e3, e4, e5⟩ y
    have hd : ds[i]? = some ds[i] := by simp [hi]
    rw [List.drop_eq_getElem_cons hi] at e5
    obtain ⟨g2, st2, s2, rx⟩ := hY i g1 H1 x H2 S1 _ st s1 hd y
    have st12 : Stp (cE lv) g H g2 H2 := st.trans st2.toA
    have f2 : H2 Da = some (.lst zs) := st2.fr Da _ e1 fun w hw => by rw [e2] at hw; cases hw
    have o2 : g2.own Da = none := by
      cases q : g2.own Da with
      | none => rfl
      | some w =>
        rcases st2.nw _ _ q with z | z
        · rw [e2] at z; cases z
        · rw [e1] at z; cases z
    have G2 : g2.G Da = none := by
      cases q : g2.G Da with
      | none => rfl
      | some w =>
        rcases st2.ng _ _ q with z | z | ⟨w', z, _⟩
        · rw [e3] at z; cases z
        · rw [e1] at z; cases z
        · rw [e2] at z; cases z
    have rel2 : Rel K C Γ g2 (wipeD sl vs) S1 (wipe σ vs) H2 := (rel_wipe hca r vs).step st12 s2
    unfold loopC at e5
    cases et : t ds[i] (wipeD sl vs) with
    | none => rw [et] at e5; cases e5
    | some sl' =>
      rw [et] at e5
      refine hg g2 _ sl' S1 _ H2 _ x _ rel2 rx et fun σ' so rel' => ⟨wipe_wipe so, ht _ _ _ (tDb_iff.mpr ⟨g2, sl', S1, rel', ?_⟩)⟩
      have e5 : (match mt sl' S1 with
        | .ok true S1 => match me sl' S1 with
          | .ok y S2 => if acc.length < sizeLine then loopC t mt me (wipeD sl vs) (ds.drop (i + 1)) (acc ++ [y]) S2 else .stuck
          | _ => .stuck
        | .ok false S1 => loopC t mt me (wipeD sl vs) (ds.drop (i + 1)) acc S1
        | _ => .stuck) = .ok ys S' := e5
      have keep : ∀ {g3 : Gh} {H3 : Hp}, Stp (cE lv) g2 H2 g3 H3 → H3 Da = some (.lst zs) ∧ g3.own Da = none ∧ g3.G Da = none := fun {g3 H3} st3 => by
        refine ⟨st3.fr Da _ f2 (fun w hw => by rw [o2] at hw; cases hw), ?_, ?_⟩
        · cases q : g3.own Da with
          | none => rfl
          | some w =>
            rcases st3.nw _ _ q with z | z
            · rw [o2] at z; cases z
            · rw [f2] at z; cases z
        · cases q : g3.G Da with
          | none => rfl
          | some w =>
            rcases st3.ng _ _ q with z | z | ⟨w', z, _⟩
            · rw [G2] at z; cases z
            · rw [f2] at z; cases z
            · rw [o2] at z; cases z
      cases em : mt sl' S1 with
      | stuck => rw [em] at e5; cases e5
      | err x3 S3 => rw [em] at e5; cases e5
      | ok b S3 =>
        rw [em] at e5
        intro g3 H3 st3 rel3
        obtain ⟨k1, k2, k3⟩ := keep st3
        cases b with
        | false =>
          exact ⟨g3, S3, acc, zs, st12.trans st3, rel3.sto, k1, k2, k3, (e4.step st2).step st3, e5⟩
        | true =>
          refine he _ _ _ (tD_iff.mpr ⟨g3, sl', S3, rel3, ?_⟩)
          have e5 : (match me sl' S3 with
            | .ok y S2 => if acc.length < sizeLine then loopC t mt me (wipeD sl vs) (ds.drop (i + 1)) (acc ++ [y]) S2 else .stuck
            | _ => .stuck) = .ok ys S' := e5
          cases ee : me sl' S3 with
          | stuck => rw [ee] at e5; cases e5
          | err x3 S3 => rw [ee] at e5; cases e5
          | ok yd S4 =>
            rw [ee] at e5
            have e5 : (if acc.length < sizeLine then loopC t mt me (wipeD sl vs) (ds.drop (i + 1)) (acc ++ [yd]) S4 else .stuck) = .ok ys S' := e5
            split at e5
            · rename_i hsz
              intro g4 H4 v st4 rel4 rv
              have st24 : Stp (cE lv) g2 H2 g4 H4 := st3.trans st4
              obtain ⟨k4, k5, k6⟩ := keep st24
              refine ⟨zs, k4, by rw [← e4.length]; exact hsz, g4, S4, acc ++ [yd], zs ++ [v], up k4 k5 k6 (st12.trans st24), up2 k4 k5 k6 rel4.sto, upd_same, k5, k6, ((e4.step st2).step st24).append (.cons rv .nil), e5⟩
            · cases e5
  · rintro H1 ⟨g1, S1, acc, zs, st, s1, e1, e2, e3, e4, e5⟩
    rw [List.drop_length] at e5
    unfold loopC at e5
    cases e5
    exact hQ g1 H1 zs st s1 e1 e2 e3 e4
theorem lc_post {K : PySem.W.Frag} {σ : L2.St} {J : Jd} {Γ Γ' : List Bool} {ms : Mx (List D)} {t : Tg} {mt : Mx Bool} {me : Mx D} {vs : List Nat} {gt : TG} {tt : TT} {te : TE} {H : Hp} {Q : VK} {P : Gh → Hp → Rx D → Prop} {g : Gh} {sl : List (Option D)} {S : Sto}
    (hca : J.C.cau = none) (hP : Post K J Γ σ sl P) (r : Rel K J.C Γ g sl S σ H) (p : P g H (mLc ms t mt me vs sl S))
    (hg : ∀ (g : Gh) (sl sl' : List (Option D)) (S : Sto) (σ : L2.St) (H : Hp) (d : D) (v : V) (Q : L2.St → Hp → Prop), Rel K J.C Γ g sl S σ H → Rep K J.C g.G g.ρ d v → t d sl = some sl' → (∀ σ', SetOnly vs σ σ' → Rel K J.C Γ' g sl' S σ' H → Q σ' H) → gt v σ H Q)
    (ht : ∀ σ H Q, tDb K J.blk Γ' mt σ H Q → tt σ H Q) (he : ∀ σ H Q, tD K J.blk Γ' me σ H Q → te σ H Q)
    (hq : ∀ g' H' zs ys S' Da, Stp (cE J.lv) g H g' H' → Rel K J.C Γ g' sl S' σ H' → H Da = none → H' Da = some (.lst zs) → g'.own Da = none → g'.G Da = none → Reps K J.C g'.G g'.ρ ys zs → P g H (.ok (.lst ys) S') → Q (.ref Da) H') :
    tLc (tI K J (cE J.lv) Γ ms) gt tt te vs σ H Q := by
  refine ⟨g, sl, S, r, ?_⟩
  unfold mLc at p
  cases e : ms sl S with
  | stuck => rw [e] at p; exact hP.stuck _ _ p
  | err x S1 => rw [e] at p; exact hP.err _ _ _ _ p
  | ok ds S1 =>
    rw [e] at p
    have p : P g H (match loopC t mt me (wipeD sl vs) ds [] S1 with | .ok ys S2 => .ok (.lst ys) S2 | _ => .stuck) := p
    intro g1 H1 Jt st1 r1 hw Da hD
    cases el : loopC t mt me (wipeD sl vs) ds [] S1 with
    | stuck => rw [el] at p; exact (hP.stuck _ _ p).elim
    | err x S2 => rw [el] at p; exact (hP.stuck _ _ p).elim
    | ok ys S2 =>
      rw [el] at p
      exact lc_run (wi := tI K J (cE J.lv) Γ ms) (W := J.W) hca hw r1 hD hg ht he el fun g' H' zs st s e1 e2 e3 e4 => hq g' H' zs ys S2 Da (st1.trans st) (r1.step st s) (st1.lv _ hD) e1 e2 e3 e4 p
variable {ms : Mx (List D)} {t : Tg} {mt : Mx Bool} {me : Mx D} {vs : List Nat} {gt : TG} {tt : TT} {Γ' : List Bool} {ifs : List Expr} {scope : Scope} {own : List (Str × Nat)} {pos : Pos}
/-- freezing the list that was just made -/
theorem stp_froze {c : Ow → Bool} {g g1 : Gh} {H H1 : Hp} {p : Addr} {o : HO} (st : Stp c g H g1 H1) (hn : H p = none) (h1 : H1 p = some o) (ho : g1.own p = none) (hg : g1.G p = none) : Stp c g H (g1.frz p o) H1 :=
  ⟨fun a u h => by
    show upd g1.G p o a = _
    have z : a ≠ p := fun z => by have := st.gG a u h; rw [z, hg] at this; cases this
    rw [upd_ne z]; exact st.gG a u h, st.fr, st.lv, st.ow, st.nw, fun a u h => by
    by_cases z : a = p
    · exact .inr (.inl (by rw [z]; exact hn))
    · have h' : upd g1.G p o a = some u := h
      rw [upd_ne z] at h'; exact st.ng a u h', st.ro⟩
theorem sto_froze {K : PySem.W.Frag} {C : Cfg} {g : Gh} {H : Hp} {S : Sto} {p : Addr} {o : HO} (s : StoOk K C g H S) (h1 : H p = some o) (ho : g.own p = none) (hg : g.G p = none) : StoOk K C (g.frz p o) H S := by
  refine sto_keep s (fun a u h => ?_) rfl (fun a u h => ?_) (fun a w h => ⟨?_, (s.fro a w h).2⟩) fun a w h _ => ⟨h, rfl⟩
  · by_cases z : a = p
    · subst z
      have h' : upd g.G a o a = some u := h
      rw [upd_same] at h'; cases h'; exact h1
    · have h' : upd g.G p o a = some u := h
      rw [upd_ne z] at h'; exact s.sub a u h'
  · show upd g.G p o a = _
    have z : a ≠ p := fun z => by rw [z, hg] at h; cases h
    rw [upd_ne z]; exact h
  · show upd g.G p o a = none
    have h : g.own a = some w := h
    have z : a ≠ p := fun z => by rw [z, ho] at h; cases h
    rw [upd_ne z]; exact (s.fro a w h).1
theorem sd_lc (hc : X.calm = true) (hN : X.N.Nodup) (hi : SI X J (cE J.lv) Γ tg iter ms) (ok : BlkOk X.N X.env.scope scope own)
    (hg : ∀ (s : Shared) (H : Hp) (C : Addr) (cl : List (Str × Addr)) (fp : List Addr), STg (X.blk s H scope (compEnvC scope cl C X.env) fp) J.C Γ Γ' (own.map (·.2)) tg t gt)
    (ht : ∀ (s : Shared) (H : Hp) (C : Addr) (cl : List (Str × Addr)) (fp : List Addr), STs (X.blk s H scope (compEnvC scope cl C X.env) fp) J.blk Γ' ifs mt tt)
    (he : ∀ (s : Shared) (H : Hp) (C : Addr) (cl : List (Str × Addr)) (fp : List Addr), SD (X.blk s H scope (compEnvC scope cl C X.env) fp) J.blk Γ' elt me) (hs : ∀ x, foldedSetIterable iter X.env x = pure x := by intro _; rfl) (hca : J.C.cau = none := by rfl) :
    SD X J Γ (.ListComp elt [⟨tg, iter, ifs, 0⟩] scope pos) (mLc ms t mt me (own.map (·.2))) := by
  refine PE.imp (pe_lc (te := tD X.K J.blk Γ' me) hc hN hi ok (fun s H C cl fp => (hg s H C cl fp).1) (fun s H C cl fp => (ht s H C cl fp).1) he hs) fun σ H Q q => ?_
  obtain ⟨g, sl, S, r, p⟩ := tD_iff.mp q
  refine lc_post hca postD r p (hg X.s_0 X.H_0 X.env.locals [] []).2 (ht X.s_0 X.H_0 X.env.locals [] []).2 (fun _ _ _ z => z) fun g' H' zs ys S' Da st rl hD h1 h2 h3 h4 p => ?_
  have st' := stp_froze st hD h1 h2 h3
  exact p _ H' _ st' (r.step st' (sto_froze rl.sto h1 h2 h3)) (.lst (.of upd_same) (h4.mono (fun a u h => by
    have z : a ≠ Da := fun z => by rw [z, h3] at h; cases h
    show upd g'.G Da _ a = _
    rw [upd_ne z]; exact h) fun _ _ z => z))
theorem sn_lc (hc : X.calm = true) (hN : X.N.Nodup) (hi : SI X J (cE J.lv) Γ tg iter ms) (ok : BlkOk X.N X.env.scope scope own)
    (hg : ∀ (s : Shared) (H : Hp) (C : Addr) (cl : List (Str × Addr)) (fp : List Addr), STg (X.blk s H scope (compEnvC scope cl C X.env) fp) J.C Γ Γ' (own.map (·.2)) tg t gt)
    (ht : ∀ (s : Shared) (H : Hp) (C : Addr) (cl : List (Str × Addr)) (fp : List Addr), STs (X.blk s H scope (compEnvC scope cl C X.env) fp) J.blk Γ' ifs mt tt)
    (he : ∀ (s : Shared) (H : Hp) (C : Addr) (cl : List (Str × Addr)) (fp : List Addr), SD (X.blk s H scope (compEnvC scope cl C X.env) fp) J.blk Γ' elt me) (hs : ∀ x, foldedSetIterable iter X.env x = pure x := by intro _; rfl) (hca : J.C.cau = none := by rfl) :
    SN X J Γ (.ListComp elt [⟨tg, iter, ifs, 0⟩] scope pos) (mLc ms t mt me (own.map (·.2))) := by
  refine PE.imp (pe_lc (te := tD X.K J.blk Γ' me) hc hN hi ok (fun s H C cl fp => (hg s H C cl fp).1) (fun s H C cl fp => (ht s H C cl fp).1) he hs) fun σ H Q q => ?_
  obtain ⟨g, sl, S, r, p⟩ := tNw_iff.mp q
  exact lc_post hca postN r p (hg X.s_0 X.H_0 X.env.locals [] []).2 (ht X.s_0 X.H_0 X.env.locals [] []).2 (fun _ _ _ z => z) fun g' H' zs ys S' Da st rl hD h1 h2 h3 h4 p =>
    p _ H' _ st rl ⟨Da, rfl, h2, h3, zs, h1, h4⟩ fun p hp => by cases hp; exact hD
end
end Sm
set_option Elab.async false
set_option linter.all false
set_option maxRecDepth 100000
set_option maxHeartbeats 1000000
/-! Sim 6: statements. -/
namespace Sm
open PySem PySem.Spec PyProof.Rows L2

/-! ### posts of statements -/
def PSt (K : PySem.W.Frag) (B : Js) (Γ' : List Bool) (E : Ends) (g : Gh) (H : Hp) : Rs → Prop
  | .next sl' S' => ∀ g' H' σ', Stp (cS B.J.lv) g H g' H' → Rel K B.J.C Γ' g' sl' S' σ' H' → E.nx σ' H'
  | .ret d S' => ∀ g' H' v, Stp (cS B.J.lv) g H g' H' → StoOk K B.J.C g' H' S' → RepR K B.J.C B.fresh g' H' d v → E.rt v H'
  | .brk sl' S' => ∀ g' H' σ', Stp (cS B.J.lv) g H g' H' → Rel K B.J.C B.ΓL g' sl' S' σ' H' → E.bk σ' H'
  | .cont sl' S' => ∀ g' H' σ', Stp (cS B.J.lv) g H g' H' → Rel K B.J.C B.ΓL g' sl' S' σ' H' → E.ct σ' H'
  | .err x sl' S' => ∀ g' H' σ' cls dx, Stp (cS B.J.lv) g H g' H' → Rel K B.J.C B.ΓX g' sl' S' σ' H' → RepX K B.J.C g' x cls dx → B.J.W cls dx σ' H'
  | .stuck => False
section
variable {K : PySem.W.Frag} {B : Js} {Γ Γ' Γ1 : List Bool} {E : Ends} {σ : L2.St} {sl : List (Option D)} {g : Gh} {H : Hp} {S : Sto}
theorem tSt_iff {m : Ms} : tSt K B Γ Γ' m E σ H ↔ ∃ g sl S, Rel K B.J.C Γ g sl S σ H ∧ PSt K B Γ' E g H (m sl S) := by
  constructor
  · rintro ⟨g, sl, S, r, h⟩
    exact ⟨g, sl, S, r, by cases e : m sl S <;> (rw [e] at h; exact h)⟩
  · rintro ⟨g, sl, S, r, h⟩
    exact ⟨g, sl, S, r, by cases e : m sl S <;> (rw [e] at h; exact h)⟩
theorem PSt.step {g1 : Gh} {H1 : Hp} {r : Rs} (st : Stp (cS B.J.lv) g H g1 H1) (h : PSt K B Γ' E g H r) : PSt K B Γ' E g1 H1 r := by
  cases r with
  | next sl S => exact fun g' H' σ' s r => h g' H' σ' (st.trans s) r
  | ret d S => exact fun g' H' v s r e => h g' H' v (st.trans s) r e
  | brk sl S => exact fun g' H' σ' s r => h g' H' σ' (st.trans s) r
  | cont sl S => exact fun g' H' σ' s r => h g' H' σ' (st.trans s) r
  | err x sl S => exact fun g' H' σ' cls dx s r e => h g' H' σ' cls dx (st.trans s) r e
  | stuck => exact h
/-- what Γ says of i is at least what a says -/
def leG (a b : List Bool) : Bool := (List.range a.length).all fun i => !a.getD i false || b.getD i false
theorem leG_at {a b : List Bool} (h : leG a b = true) (i : Nat) (e : a.getD i false = true) : b.getD i false = true := by
  unfold leG at h
  by_cases hi : i < a.length
  · have q := List.all_eq_true.mp h i (List.mem_range.mpr hi)
    rw [e] at q
    simpa using q
  · have : a.getD i false = false := by simp [List.getD, List.getElem?_eq_none (Nat.le_of_not_lt hi)]
    rw [this] at e; cases e
/-- slots that are no longer the frame's own -/
def Gh.let (g : Gh) (H : Hp) (Γ : List Bool) : Gh where
  G := fun a => match g.own a with
    | some (.slot i) => if Γ.getD i false = true then g.G a else H a
    | _ => g.G a
  ρ := g.ρ
  own := fun a => match g.own a with
    | some (.slot i) => if Γ.getD i false = true then g.own a else none
    | o => o
theorem let_own {a : Addr} {w : Ow} (h : (g.let H Γ1).own a = some w) : g.own a = some w ∧ ∀ i, w = .slot i → Γ1.getD i false = true := by
  unfold Gh.let at h
  simp only at h
  split at h
  · rename_i i e
    split at h
    · rename_i c
      refine ⟨h, fun j z => ?_⟩
      rw [e] at h; cases h; cases z; exact c
    · cases h
  · rename_i e
    exact ⟨h, fun j z => by rw [z] at h; exact absurd h (e j)⟩
theorem let_own' {a : Addr} {w : Ow} (h : g.own a = some w) (k : ∀ i, w = .slot i → Γ1.getD i false = true) : (g.let H Γ1).own a = some w := by
  unfold Gh.let
  simp only
  rw [h]
  cases w with
  | slot i => simp only; rw [if_pos (k i rfl)]
  | _ => rfl
theorem let_G {C : Cfg} (s : StoOk K C g H S) : Same g.G (g.let H Γ1).G := fun a o h => by
  have q : g.own a = none := by
    cases e : g.own a with
    | none => rfl
    | some w => have := (s.fro a w e).1; rw [h] at this; cases this
  show (match g.own a with | some (.slot i) => if Γ1.getD i false = true then g.G a else H a | _ => g.G a) = some o
  rw [q]; exact h
theorem let_stp {C : Cfg} {lv : Bool} (s : StoOk K C g H S) : Stp (cS lv) g H (g.let H Γ1) H where
  gG := let_G s
  fr := fun _ _ h _ => h
  lv := fun _ h => h
  ow := fun a w h hc => let_own' h fun i z => by rw [z] at hc; cases hc
  nw := fun a w h => .inl (let_own h).1
  ng := fun a o h => by
    have h' : (match g.own a with | some (.slot i) => if Γ1.getD i false = true then g.G a else H a | _ => g.G a) = some o := h
    split at h'
    · rename_i i e
      exact .inr (.inr ⟨_, e, rfl⟩)
    · exact .inl h'
  ro := fun _ _ h => h
theorem let_sto {C : Cfg} (s : StoOk K C g H S) : StoOk K C (g.let H Γ1) H S := by
  refine sto_keep s (fun a o h => ?_) rfl (let_G s) (fun a w h => ?_) fun a w h hw => ⟨let_own' h fun i z => absurd z (hw i), rfl⟩
  · have h' : (match g.own a with | some (.slot i) => if Γ1.getD i false = true then g.G a else H a | _ => g.G a) = some o := h
    split at h'
    · split at h'
      · exact s.sub a o h'
      · exact h'
    · exact s.sub a o h'
  · obtain ⟨h1, h2⟩ := let_own h
    refine ⟨?_, (s.fro a w h1).2⟩
    show (match g.own a with | some (.slot i) => if Γ1.getD i false = true then g.G a else H a | _ => g.G a) = none
    rw [h1]
    cases w with
    | slot i => simp only; rw [if_pos (h2 i rfl)]; exact (s.fro a _ h1).1
    | _ => exact (s.fro a _ h1).1
theorem cell_rep {C : Cfg} {p : Addr} {d : D} (h : Cell K C g H p d) (e : g.G p = H p) : Rep K C g.G g.ρ d (.ref p) := by
  cases d <;> first | exact False.elim h | skip
  · obtain ⟨vs, q, r⟩ := h; exact .lst (.of (by rw [e]; exact q)) r
  · obtain ⟨vs, q, r⟩ := h; exact .dK (by rw [e]; exact q) r
  · obtain ⟨vs, q, r⟩ := h; exact .dT (by rw [e]; exact q) r
theorem rel_let {C : Cfg} (r : Rel K C Γ g sl S σ H) (h : leG Γ1 Γ = true) : Rel K C Γ1 (g.let H Γ1) sl S σ H := by
  have hG := let_G (Γ1 := Γ1) r.sto
  refine ⟨let_sto r.sto, r.len, fun i d e q => ?_, fun i d e q => ?_, cau_mono hG (fun _ _ z => z) r.cau⟩
  · by_cases c : Γ.getD i false = true
    · obtain ⟨p, h1, h2, h3⟩ := r.slO i d e c
      refine ⟨.ref p, h1, cell_rep (h3.mono rfl hG fun _ _ z => z) ?_⟩
      show (match g.own p with | some (.slot i) => if Γ1.getD i false = true then g.G p else H p | _ => g.G p) = H p
      rw [h2]
      simp only
      rw [if_neg (by rw [q]; exact Bool.false_ne_true)]
    · obtain ⟨v, h1, h2⟩ := r.slF i d e (by simpa using c)
      exact ⟨v, h1, h2.mono hG fun _ _ z => z⟩
  · obtain ⟨p, h1, h2, h3⟩ := r.slO i d e (leG_at h i q)
    exact ⟨p, h1, let_own' h2 (fun j z => by cases z; exact q), h3.mono rfl hG fun _ _ z => z⟩
theorem RepX.step {C : Cfg} {c : Ow → Bool} {g' : Gh} {H' : Hp} {x : Exc} {cls : Value} {dx : Option Addr} (h : RepX K C g x cls dx) (st : Stp c g H g' H') : RepX K C g' x cls dx := by
  exact h.mono st.gG st.ro
/-- an error of a part -/
theorem PSt.err {x : Exc} {S' : Sto} (h : PSt K B Γ' E g H (.err x sl S')) (hX : leG B.ΓX Γ = true) : PErr K B.J Γ σ sl g H x S' := fun g' H' cls dx st r e => by
  have st2 := let_stp (Γ1 := B.ΓX) (lv := B.J.lv) r.sto
  exact h _ _ _ cls dx (st.toS.trans st2) (rel_let r hX) (e.step st2)
end

/-! ### parts of a statement -/
section
variable {α : Type}
def bindS (m : Mx α) (k : α → Ms) : Ms := fun sl S => match m sl S with
  | .ok a S' => k a sl S'
  | .err x S' => .err x sl S'
  | .stuck => .stuck
end
section
variable {K : PySem.W.Frag} {B : Js} {Γ Γ' Γ1 : List Bool} {E : Ends} {σ : L2.St} {sl : List (Option D)} {g : Gh} {H : Hp} {S : Sto}
theorem csD {m : Mx D} {k : D → Ms} {R : VK} (r : Rel K B.J.C Γ g sl S σ H) (h : PSt K B Γ' E g H (bindS m k sl S)) (hX : leG B.ΓX Γ = true)
    (f : ∀ g1 H1 d S1 x, Stp (cE B.J.lv) g H g1 H1 → Rel K B.J.C Γ g1 sl S1 σ H1 → Rep K B.J.C g1.G g1.ρ d x → PSt K B Γ' E g1 H1 (k d sl S1) → R x H1) : tD K B.J Γ m σ H R := by
  refine tD_iff.mpr ⟨g, sl, S, r, ?_⟩
  unfold bindS at h
  cases e : m sl S with
  | ok d S' => rw [e] at h; exact fun g' H' v s r' b => f g' H' d S' v s r' b (PSt.step s.toS h)
  | err x S' => rw [e] at h; exact h.err hX
  | stuck => rw [e] at h; exact h
theorem csB {m : Mx D} {k : D → Ms} {R : VK} (r : Rel K B.J.C Γ g sl S σ H) (h : PSt K B Γ' E g H (bindS m k sl S)) (hX : leG B.ΓX Γ = true)
    (f : ∀ g1 H1 d S1 x, Stp (cE B.J.lv) g H g1 H1 → Rel K B.J.C Γ g1 sl S1 σ H1 → RepB K B.J g1 H1 d x → PSt K B Γ' E g1 H1 (k d sl S1) → R x H1) : tBo K B.J Γ m σ H R := by
  refine tBo_iff.mpr ⟨g, sl, S, r, ?_⟩
  unfold bindS at h
  cases e : m sl S with
  | ok d S' => rw [e] at h; exact fun g' H' v s r' b => f g' H' d S' v s r' b (PSt.step s.toS h)
  | err x S' => rw [e] at h; exact h.err hX
  | stuck => rw [e] at h; exact h
theorem csN {m : Mx D} {k : D → Ms} {R : VK} (r : Rel K B.J.C Γ g sl S σ H) (h : PSt K B Γ' E g H (bindS m k sl S)) (hX : leG B.ΓX Γ = true)
    (f : ∀ g1 H1 d S1 x, Stp (cE B.J.lv) g H g1 H1 → Rel K B.J.C Γ g1 sl S1 σ H1 → RepN K B.J.C g1 H1 d x → (∀ p, x = .ref p → H p = none) → PSt K B Γ' E g H (k d sl S1) → R x H1) : tNw K B.J Γ m σ H R := by
  refine tNw_iff.mpr ⟨g, sl, S, r, ?_⟩
  unfold bindS at h
  cases e : m sl S with
  | ok d S' => rw [e] at h; exact fun g' H' v s r' b n => f g' H' d S' v s r' b n h
  | err x S' => rw [e] at h; exact h.err hX
  | stuck => rw [e] at h; exact h
theorem csDs {m : Mx (List D)} {k : List D → Ms} {R : List V → Hp → Prop} (r : Rel K B.J.C Γ g sl S σ H) (h : PSt K B Γ' E g H (bindS m k sl S)) (hX : leG B.ΓX Γ = true)
    (f : ∀ g1 H1 d S1 x, Stp (cE B.J.lv) g H g1 H1 → Rel K B.J.C Γ g1 sl S1 σ H1 → Reps K B.J.C g1.G g1.ρ d x → PSt K B Γ' E g1 H1 (k d sl S1) → R x H1) : tDs K B.J Γ m σ H R := by
  refine tDs_iff.mpr ⟨g, sl, S, r, ?_⟩
  unfold bindS at h
  cases e : m sl S with
  | ok d S' => rw [e] at h; exact fun g' H' v s r' b => f g' H' d S' v s r' b (PSt.step s.toS h)
  | err x S' => rw [e] at h; exact h.err hX
  | stuck => rw [e] at h; exact h
theorem csT {m : Mx Bool} {k : Bool → Ms} {R : Bool → Hp → Prop} (r : Rel K B.J.C Γ g sl S σ H) (h : PSt K B Γ' E g H (bindS m k sl S)) (hX : leG B.ΓX Γ = true)
    (f : ∀ g1 H1 d S1, Stp (cE B.J.lv) g H g1 H1 → Rel K B.J.C Γ g1 sl S1 σ H1 → PSt K B Γ' E g1 H1 (k d sl S1) → R d H1) : tDb K B.J Γ m σ H R := by
  refine tDb_iff.mpr ⟨g, sl, S, r, ?_⟩
  unfold bindS at h
  cases e : m sl S with
  | ok d S' => rw [e] at h; exact fun g' H' s r' => f g' H' d S' s r' (PSt.step s.toS h)
  | err x S' => rw [e] at h; exact h.err hX
  | stuck => rw [e] at h; exact h
theorem csI {m : Mx (List D)} {k : List D → Ms} {R : It → Hp → Prop} {c : Ow → Bool} (r : Rel K B.J.C Γ g sl S σ H) (h : PSt K B Γ' E g H (bindS m k sl S)) (hX : leG B.ΓX Γ = true)
    (f : ∀ g1 H1 d S1 Jt, Stp (cE B.J.lv) g H g1 H1 → Rel K B.J.C Γ g1 sl S1 σ H1 → WalkD K B.J.C c g1 H1 Jt d → PSt K B Γ' E g1 H1 (k d sl S1) → R Jt H1) : tI K B.J c Γ m σ H R := by
  refine ⟨g, sl, S, r, ?_⟩
  unfold bindS at h
  cases e : m sl S with
  | ok d S' => rw [e] at h; exact fun g' H' v s r' b => f g' H' d S' v s r' b (PSt.step s.toS h)
  | err x S' => rw [e] at h; exact h.err hX
  | stuck => rw [e] at h; exact h
end

/-! ### the statements -/
def mSkip : Ms := fun sl S => .next sl S
def mSq (a b : Ms) : Ms := fun sl S => match a sl S with
  | .next sl' S' => b sl' S'
  | r => r
def mPut (t : Tg) (me : Mx D) : Ms := bindS me fun d sl S => match t d sl with
  | some sl' => .next sl' S
  | none => .stuck
def mOwn (i : Nat) (me : Mx D) : Ms := bindS me fun d sl S => if i < sl.length then .next (sl.set i (some d)) S else .stuck
def mDo (me : Mx D) : Ms := bindS me fun _ sl S => .next sl S
def mRet (me : Mx D) : Ms := bindS me fun d _ S => .ret d S
def mRetN : Ms := fun _ S => .ret .non S
def mIf (c : Mx Bool) (a b : Ms) : Ms := bindS c fun k => if k = true then a else b
def mBrk : Ms := fun sl S => .brk sl S
def mCont : Ms := fun sl S => .cont sl S
section
variable {X : Cx} {B : Js} {Γ Γ' Γ1 Γ2 : List Bool} {st : Stmt} {sts : List Stmt} {m m1 m2 : Ms} {e tg c iter : Expr} {me ma : Mx D} {mt : Mx Bool} {pos : Pos} {t : Tg} {gt : TG} {vs : List Nat}
theorem ss_let (hle : leG Γ1 Γ = true) (h : SS X B Γ1 Γ' st m) : SS X B Γ Γ' st m := PS.imp h fun E σ H q => by
  obtain ⟨g, sl, S, r, p⟩ := tSt_iff.mp q
  exact tSt_iff.mpr ⟨_, sl, S, rel_let r hle, PSt.step (let_stp r.sto) p⟩
theorem PSt.let {K : PySem.W.Frag} {E : Ends} {g : Gh} {H : Hp} {r : Rs} (hle : leG Γ2 Γ1 = true) (p : PSt K B Γ2 E g H r) : PSt K B Γ1 E g H r := by
  cases r with
  | next sl S => exact fun g' H' σ' s r => p _ _ _ (s.trans (let_stp r.sto)) (rel_let r hle)
  | ret d S => exact p
  | brk sl S => exact p
  | cont sl S => exact p
  | err x sl S => exact p
  | stuck => exact p
theorem ss_end (hle : leG Γ2 Γ1 = true) (h : SS X B Γ Γ1 st m) : SS X B Γ Γ2 st m := PS.imp h fun E σ H q => by
  obtain ⟨g, sl, S, r, p⟩ := tSt_iff.mp q
  exact tSt_iff.mpr ⟨_, sl, S, r, PSt.let hle p⟩
theorem sss_end (hle : leG Γ2 Γ1 = true) (h : SSs X B Γ Γ1 sts m) : SSs X B Γ Γ2 sts m := PSs.imp h fun E σ H q => by
  obtain ⟨g, sl, S, r, p⟩ := tSt_iff.mp q
  exact tSt_iff.mpr ⟨_, sl, S, r, PSt.let hle p⟩
theorem sss_nil : SSs X B Γ Γ [] mSkip := PSs.imp pss_nil fun E σ H q => by
  obtain ⟨g, sl, S, r, p⟩ := tSt_iff.mp q
  exact p g H σ Stp.refl r
theorem seq_run {K : PySem.W.Frag} {E : Ends} {σ : L2.St} {H : Hp} (q : tSt K B Γ Γ2 (mSq m1 m2) E σ H) : tSt K B Γ Γ1 m1 { E with nx := tSt K B Γ1 Γ2 m2 E } σ H := by
  obtain ⟨g, sl, S, r, p⟩ := tSt_iff.mp q
  refine tSt_iff.mpr ⟨g, sl, S, r, ?_⟩
  unfold mSq at p
  cases em : m1 sl S with
  | next sl' S' => rw [em] at p; exact fun g' H' σ' s r' => tSt_iff.mpr ⟨g', sl', S', r', PSt.step s p⟩
  | ret d S' => rw [em] at p; exact p
  | brk sl' S' => rw [em] at p; exact p
  | cont sl' S' => rw [em] at p; exact p
  | err x sl' S' => rw [em] at p; exact p
  | stuck => rw [em] at p; exact p
theorem sss_cons (h1 : SS X B Γ Γ1 st m1) (h2 : SSs X B Γ1 Γ2 sts m2) : SSs X B Γ Γ2 (st :: sts) (mSq m1 m2) := PSs.imp (pss_cons h1 h2) fun E σ H q => seq_run q
theorem sss_one (h1 : SS X B Γ Γ1 st m1) : SSs X B Γ Γ1 [st] m1 := pss_one h1
theorem ss_pass : SS X B Γ Γ (.Pass pos) mSkip := PS.imp ps_pass fun E σ H q => by
  obtain ⟨g, sl, S, r, p⟩ := tSt_iff.mp q
  exact p g H σ Stp.refl r
theorem ss_doc {x : Str} {j : Nat} {pos' : Pos} : SS X B Γ Γ (.Expr (.Constant (.str x) j pos) pos') mSkip := PS.imp ps_doc fun E σ H q => by
  obtain ⟨g, sl, S, r, p⟩ := tSt_iff.mp q
  exact p g H σ Stp.refl r
theorem ss_brk (hl : leG B.ΓL Γ = true := by rfl) : SS X B Γ Γ' (.Break pos) mBrk := PS.imp ps_break fun E σ H q => by
  obtain ⟨g, sl, S, r, p⟩ := tSt_iff.mp q
  exact p _ H σ (let_stp r.sto) (rel_let r hl)
theorem ss_cont (hl : leG B.ΓL Γ = true := by rfl) : SS X B Γ Γ' (.Continue pos) mCont := PS.imp ps_continue fun E σ H q => by
  obtain ⟨g, sl, S, r, p⟩ := tSt_iff.mp q
  exact p _ H σ (let_stp r.sto) (rel_let r hl)
theorem ss_expr (he : SD X B.J Γ e me) (hX : leG B.ΓX Γ = true := by rfl) (hs : swapsWith e none pos.line X.env = pure false := by rfl) : SS X B Γ Γ (.Expr e pos) (mDo me) :=
  PS.imp (ps_expr he hs) fun E σ H q => by
    obtain ⟨g, sl, S, r, p⟩ := tSt_iff.mp q
    exact csD r p hX fun g1 H1 d S1 x st1 r1 b1 p1 => p1 g1 H1 σ Stp.refl r1
theorem ss_ret (he : SD X B.J Γ e me) (hf : B.fresh = false := by rfl) (hX : leG B.ΓX Γ = true := by rfl) : SS X B Γ Γ' (.Return (some e) pos) (mRet me) :=
  PS.imp (ps_ret he) fun E σ H q => by
    obtain ⟨g, sl, S, r, p⟩ := tSt_iff.mp q
    exact csD r p hX fun g1 H1 d S1 x st1 r1 b1 p1 => p1 g1 H1 x Stp.refl r1.sto (by unfold RepR; rw [hf, if_neg Bool.false_ne_true]; exact b1)
theorem ss_retN (hf : B.fresh = false := by rfl) : SS X B Γ Γ' (.Return none pos) mRetN :=
  PS.imp ps_retN fun E σ H q => by
    obtain ⟨g, sl, S, r, p⟩ := tSt_iff.mp q
    exact p g H .non Stp.refl r.sto (by unfold RepR; rw [hf, if_neg Bool.false_ne_true]; exact .non)
/-- return of the frame's own list -/
theorem ss_retO (i : Nat) {x : Str} {p2 : Pos} (hf : B.fresh = true := by rfl) (hΓ : Γ.getD i false = true := by rfl) (hX : leG B.ΓX Γ = true := by rfl) (hN : X.N[i]? = some x := by rfl) (hv : Vis X.env.scope x := by first | exact Or.inl rfl | exact Or.inr (Or.inl rfl) | exact Or.inr (Or.inr rfl)) (hd : (x == ("__debug__" : Str)) = false := by decide)
    (hcd : (x == ("__classdict__" : Str)) = false := by decide) : SS X B Γ Γ' (.Return (some (.Name x p2)) pos) (mRet (mVar i)) :=
  PS.imp (ps_ret (pe_var hN hv hd hcd)) fun E σ H q => by
    obtain ⟨g, sl, S, r, p⟩ := tSt_iff.mp q
    unfold mRet bindS mVar at p
    cases e : sl[i]? with
    | none => rw [e] at p; exact False.elim p
    | some od =>
      cases od with
      | none => rw [e] at p; exact False.elim p
      | some d =>
        rw [e] at p
        obtain ⟨a, h1, h2, h3⟩ := r.slO i d e hΓ
        exact ⟨.ref a, h1, p g H _ Stp.refl r.sto (by unfold RepR; rw [hf, if_pos rfl]; exact ⟨a, rfl, ⟨i, h2⟩, h3⟩)⟩
/-- claiming a fresh cell -/
def Gh.claim (g : Gh) (p : Addr) (w : Ow) : Gh := { g with own := fun a => if a = p then some w else g.own a }
theorem claim_stp {c : Ow → Bool} {g g1 : Gh} {H H1 : Hp} {p : Addr} {w : Ow} (st : Stp c g H g1 H1) (hn : H p = none) (ho : g1.own p = none) : Stp c g H (g1.claim p w) H1 :=
  ⟨st.gG, st.fr, st.lv, fun a u h hc => by
    have q := st.ow a u h hc
    show (if a = p then some w else g1.own a) = some u
    rw [if_neg (fun z => by rw [z, ho] at q; cases q)]; exact q, fun a u h => by
    by_cases z : a = p
    · exact .inr (by rw [z]; exact hn)
    · have h' : (if a = p then some w else g1.own a) = some u := h
      rw [if_neg z] at h'; exact st.nw a u h', st.ng, st.ro⟩
theorem claim_sto {K : PySem.W.Frag} {C : Cfg} {g : Gh} {H : Hp} {S : Sto} {p : Addr} {w : Ow} (s : StoOk K C g H S) (ho : g.own p = none) (hG : g.G p = none) (hH : H p ≠ none) : StoOk K C (g.claim p w) H S := by
  refine sto_keep s s.sub rfl (Same.refl _) (fun a u h => ?_) fun a u h _ => ⟨?_, rfl⟩
  · by_cases z : a = p
    · rw [z]; exact ⟨hG, hH⟩
    · have h' : (if a = p then some w else g.own a) = some u := h
      rw [if_neg z] at h'; exact s.fro a u h'
  · show (if a = p then some w else g.own a) = some u
    rw [if_neg (fun z => by rw [z, ho] at h; cases h)]; exact h
theorem ss_retNw (he : SN X B.J Γ e me) (hf : B.fresh = true := by rfl) (hX : leG B.ΓX Γ = true := by rfl) : SS X B Γ Γ' (.Return (some e) pos) (mRet me) :=
  PS.imp (ps_ret he) fun E σ H q => by
    obtain ⟨g, sl, S, r, p⟩ := tSt_iff.mp q
    refine csN r p hX fun g1 H1 d S1 x st1 r1 b1 n1 p1 => ?_
    obtain ⟨a, rfl, h1, h2, h3⟩ := b1
    obtain ⟨o, ho⟩ := h3.there
    refine p1 (g1.claim a (.slot 0)) H1 _ (claim_stp st1.toS (n1 a rfl) h1) (claim_sto r1.sto h1 h2 (by rw [ho]; exact fun z => by cases z)) ?_
    unfold RepR
    rw [hf, if_pos rfl]
    exact ⟨a, rfl, ⟨0, by show (if a = a then _ else _) = _; rw [if_pos rfl]⟩, h3.mono rfl (Same.refl _) fun _ _ z => z⟩
theorem ss_if {a b : List Stmt} (hc : ST X B.J Γ c mt) (ha : SSs X B Γ Γ' a m1) (hb : SSs X B Γ Γ' b m2) (hX : leG B.ΓX Γ = true := by rfl) : SS X B Γ Γ' (.If c a b pos) (mIf mt m1 m2) :=
  PS.imp (ps_if hc ha hb) fun E σ H q => by
    obtain ⟨g, sl, S, r, p⟩ := tSt_iff.mp q
    refine csT r p hX fun g1 H1 d S1 st1 r1 p1 => ?_
    cases d with
    | true => exact tSt_iff.mpr ⟨g1, sl, S1, r1, p1⟩
    | false => exact tSt_iff.mpr ⟨g1, sl, S1, r1, p1⟩
theorem put_run {K : PySem.W.Frag} {E : Ends} {σ : L2.St} {H : Hp} {te : TE} (hK : K = X.K) (he : ∀ σ H Q, tD K B.J Γ me σ H Q → te σ H Q) (hg : STg X B.J.C Γ Γ' vs tg t gt) (hX : leG B.ΓX Γ = true) (q : tSt K B Γ Γ' (mPut t me) E σ H) : tAsg te gt E σ H := by
  subst hK
  obtain ⟨g, sl, S, r, p⟩ := tSt_iff.mp q
  refine he _ _ _ (csD r p hX fun g1 H1 d S1 x st1 r1 b1 p1 => ?_)
  cases et : t d sl with
  | none => rw [et] at p1; exact False.elim p1
  | some sl' =>
    rw [et] at p1
    exact hg.2 g1 sl sl' S1 σ H1 d x _ r1 b1 et fun σ' _ r' => p1 g1 H1 σ' Stp.refl r'
/-- target = value, the target a tuple -/
theorem ss_asg (hg : STg X B.J.C Γ Γ' vs tg t gt) (he : SD X B.J Γ e me) (hX : leG B.ΓX Γ = true := by rfl) (hs : swapsWithSole [tg] e pos.line X.env = pure false := by rfl) (hw : swappedStores [tg] e X.env = pure none := by rfl)
    (h1 : (assignEach [tg] X.env).map (·.2) = [assign tg X.env] := by rfl) : SS X B Γ Γ' (.Assign [tg] e pos) (mPut t me) :=
  PS.imp (ps_asg he hg.1 hs hw h1) fun E σ H q => put_run rfl (fun _ _ _ z => z) hg hX q
/-- name = value -/
theorem ss_set (i : Nat) {x : Str} {pos' : Pos} (hN : X.N.Nodup) (he : SD X B.J Γ e me) (hΓ : Γ.getD i false = false := by rfl) (hX : leG B.ΓX Γ = true := by rfl) (hi : X.N[i]? = some x := by rfl) (hx : Loc X.env.scope x := by first | exact Or.inl rfl | exact Or.inr rfl)
    (hs : swapsWith e (some (.Name x pos')) pos.line X.env = pure false := by rfl) (hf : X.fn x = true ∨ X.env.scope.names.lookup x = some .local := by first | exact .inl rfl | exact .inr rfl | assumption) : SS X B Γ Γ (.Assign [.Name x pos'] e pos) (mPut (tName i) me) :=
  PS.imp (ps_set hN hi hx he hs hf) fun E σ H q => put_run rfl (fun _ _ _ z => z) (tg_name (pos := pos') i hN hΓ hi hx hf) hX q
theorem getD_set_true {i j : Nat} (hi : i < Γ.length) : (Γ.set i true).getD j false = if j = i then true else Γ.getD j false := by
  simp only [List.getD_eq_getElem?_getD]
  by_cases z : j = i
  · subst z; rw [List.getElem?_set_self hi, if_pos rfl]; rfl
  · rw [List.getElem?_set_ne (fun q => z q.symm), if_neg z]
theorem rel_claim {K : PySem.W.Frag} {C : Cfg} {g : Gh} {sl : List (Option D)} {S : Sto} {σ : L2.St} {H : Hp} {i : Nat} {d : D} {p : Addr} (r : Rel K C Γ g sl S σ H) (ho : g.own p = none) (hG : g.G p = none) (hc : Cell K C g H p d) (hi : i < Γ.length) :
    Rel K C (Γ.set i true) (g.claim p (.slot i)) (sl.set i (some d)) S (σ.set i (some (.ref p))) H := by
  obtain ⟨o, hp⟩ := hc.there
  refine ⟨claim_sto r.sto ho hG (by rw [hp]; exact fun z => by cases z), by rw [List.length_set, List.length_set]; exact r.len, fun j e q hj => ?_, fun j e q hj => ?_, fun c q => ⟨fun hj => cau_set (r.cau c q).1 hj, (r.cau c q).2⟩⟩
  · rw [getD_set_true hi] at hj
    by_cases z : j = i
    · rw [if_pos z] at hj; cases hj
    · rw [if_neg z] at hj
      rw [List.getElem?_set_ne (fun q => z q.symm)] at q ⊢
      exact r.slF j e q hj
  · by_cases z : j = i
    · subst z
      have hl : j < sl.length := by
        have := (List.getElem?_eq_some_iff.mp q).1
        rw [List.length_set] at this; exact this
      rw [List.getElem?_set_self hl] at q
      cases q
      exact ⟨p, by rw [List.getElem?_set_self (by rw [← r.len]; exact hl)], by show (if p = p then _ else _) = _; rw [if_pos rfl], hc.mono rfl (Same.refl _) fun _ _ z => z⟩
    · rw [getD_set_true hi, if_neg z] at hj
      rw [List.getElem?_set_ne (fun q => z q.symm)] at q ⊢
      obtain ⟨a, h1, h2, h3⟩ := r.slO j e q hj
      refine ⟨a, h1, ?_, h3.mono rfl (Same.refl _) fun _ _ z => z⟩
      show (if a = p then _ else _) = _
      rw [if_neg (fun z => by rw [z, ho] at h2; cases h2)]; exact h2
theorem own_run {K : PySem.W.Frag} {E : Ends} {σ : L2.St} {H : Hp} {te : TE} {i : Nat} (he : ∀ σ H Q, tNw K B.J Γ me σ H Q → te σ H Q) (hi : i < Γ.length) (hX : leG B.ΓX Γ = true) (q : tSt K B Γ (Γ.set i true) (mOwn i me) E σ H) : tAsg te (gName i) E σ H := by
  obtain ⟨g, sl, S, r, p⟩ := tSt_iff.mp q
  refine he _ _ _ (csN r p hX fun g1 H1 d S1 x st1 r1 b1 n1 p1 => ?_)
  split at p1
  · obtain ⟨a, rfl, h1, h2, h3⟩ := b1
    exact p1 (g1.claim a (.slot i)) H1 _ (claim_stp st1.toS (n1 a rfl) h1) (rel_claim r1 h1 h2 h3 hi)
  · exact False.elim p1
/-- name = a new list, which is the frame's own -/
theorem ss_own (i : Nat) {x : Str} {pos' : Pos} (hN : X.N.Nodup) (he : SN X B.J Γ e me) (hi' : i < Γ.length := by decide) (hX : leG B.ΓX Γ = true := by rfl) (hi : X.N[i]? = some x := by rfl) (hx : Loc X.env.scope x := by first | exact Or.inl rfl | exact Or.inr rfl)
    (hs : swapsWith e (some (.Name x pos')) pos.line X.env = pure false := by rfl) (hf : X.fn x = true ∨ X.env.scope.names.lookup x = some .local := by first | exact .inl rfl | exact .inr rfl | assumption) : SS X B Γ (Γ.set i true) (.Assign [.Name x pos'] e pos) (mOwn i me) :=
  PS.imp (ps_set hN hi hx he hs hf) fun E σ H q => own_run (fun _ _ _ z => z) hi' hX q
end
end Sm
set_option Elab.async false
set_option linter.all false
set_option maxRecDepth 100000
set_option maxHeartbeats 1000000
/-! Sim 7: loops, own lists, attributes. -/
namespace Sm
open PySem PySem.Spec PyProof.Rows L2

/-! ### for -/
def loopF (t : Tg) (body : Ms) : List D → Ms
  | [], sl, S => .next sl S
  | d :: ds, sl, S => match t d sl with
    | none => .stuck
    | some sl' => match body sl' S with
      | .next sl2 S2 => loopF t body ds sl2 S2
      | .cont sl2 S2 => loopF t body ds sl2 S2
      | .brk sl2 S2 => .next sl2 S2
      | r => r
def mFor (src : Mx (List D)) (t : Tg) (body : Ms) : Ms := bindS src fun ds => loopF t body ds
def whileF (c : Mx Bool) (body : Ms) : Nat → Ms
  | 0 => fun _ _ => .stuck
  | n + 1 => bindS c fun k => if k = true then (fun sl S => match body sl S with
      | .next sl2 S2 => whileF c body n sl2 S2
      | .cont sl2 S2 => whileF c body n sl2 S2
      | .brk sl2 S2 => .next sl2 S2
      | r => r) else fun sl S => .next sl S
section
variable {X : Cx} {B : Js} {Γ Γ' Γ1 Γ2 : List Bool} {st : Stmt} {body : List Stmt} {m m1 m2 mb : Ms} {e tg c iter : Expr} {me ma : Mx D} {ms : Mx (List D)} {mt : Mx Bool} {pos : Pos} {t : Tg} {gt : TG} {vs : List Nat}
/-- what a loop's body wants, out of what the loop wants -/
theorem body_post {K : PySem.W.Frag} {E E' : Ends} {g : Gh} {H : Hp} {r : Rs} {k : List (Option D) → Sto → Rs} (hr : E'.rt = E.rt) (hb : E'.bk = E.nx)
    (hn : ∀ g' H' σ' sl' S', Stp (cS B.J.lv) g H g' H' → Rel K B.J.C Γ g' sl' S' σ' H' → PSt K B Γ E g' H' (k sl' S') → E'.nx σ' H' ∧ E'.ct σ' H')
    (p : PSt K B Γ E g H (match r with | .next sl2 S2 => k sl2 S2 | .cont sl2 S2 => k sl2 S2 | .brk sl2 S2 => .next sl2 S2 | r => r)) : PSt K { B with ΓL := Γ } Γ E' g H r := by
  cases r with
  | next sl S => exact fun g' H' σ' s r => (hn g' H' σ' sl S s r (PSt.step s p)).1
  | ret d S => exact fun g' H' v s r e => by rw [hr]; exact p g' H' v s r e
  | brk sl S => exact fun g' H' σ' s r => by rw [hb]; exact p g' H' σ' s r
  | cont sl S => exact fun g' H' σ' s r => (hn g' H' σ' sl S s r (PSt.step s p)).2
  | err x sl S => exact fun g' H' σ' cls dx s r e => p g' H' σ' cls dx s r e
  | stuck => exact p
theorem ss_for (hp : PassesOwn (model X.prog X.w) X.A X.env X.xe) (hc : X.calm = true) (hi : SI X B.J (cS B.J.lv) Γ tg iter ms) (hg : STg X B.J.C Γ Γ vs tg t gt) (hb : SSs X { B with ΓL := Γ } Γ Γ body mb) (hX : leG B.ΓX Γ = true := by rfl)
    (hs : ∀ x, foldedSetIterable iter X.env x = pure x := by intro _; rfl) : SS X B Γ Γ (.For tg iter body [] pos) (mFor ms t mb) :=
  PS.imp (ps_for hp hc hi hg.1 hb hs) fun E σ H q => by
    obtain ⟨g, sl, S, r, p⟩ := tSt_iff.mp q
    refine csI r p hX fun g1 H1 ds S1 Jt st1 r1 hw p1 => ?_
    obtain ⟨Gp, Y, w, hG, hY⟩ := hw
    refine for_it w (fun i σ' H' => ∃ g' sl' S', Stp (cS B.J.lv) g1 H1 g' H' ∧ Rel X.K B.J.C Γ g' sl' S' σ' H' ∧ PSt X.K B Γ E g' H' (loopF t mb (ds.drop i) sl' S')) ⟨g1, sl, S1, Stp.refl, r1, p1⟩ ?_ ?_ ?_
    · rintro i σ' H' _ ⟨g', sl', S', st, r', _⟩
      exact hG g' H' st r'.sto.sub
    · rintro i x σ' H' H2 hi ⟨g', sl', S', st, r', p'⟩ y
      have hd : ds[i]? = some ds[i] := by simp [hi]
      rw [List.drop_eq_getElem_cons hi] at p'
      obtain ⟨g2, st2, s2, rx⟩ := hY i g' H' x H2 S' _ st r'.sto hd y
      have r2 : Rel X.K B.J.C Γ g2 sl' S' σ' H2 := r'.step (st2.toA (lv := false)) s2
      have p2 := PSt.step ((st2.toS (lv := false)).toSA (lv := B.J.lv)) p'
      unfold loopF at p2
      cases et : t ds[i] sl' with
      | none => rw [et] at p2; exact False.elim p2
      | some sl2 =>
        rw [et] at p2
        refine hg.2 g2 sl' sl2 S' σ' H2 _ x _ r2 rx et fun σ2 _ r3 => tSt_iff.mpr ⟨g2, sl2, S', r3, ?_⟩
        refine body_post (E := E) (k := loopF t mb (ds.drop (i + 1))) rfl rfl (fun g3 H3 σ3 sl3 S3 s3 r3 p3 => ?_) p2
        have z : ∃ g' sl' S', Stp (cS B.J.lv) g1 H1 g' H3 ∧ Rel X.K B.J.C Γ g' sl' S' σ3 H3 ∧ PSt X.K B Γ E g' H3 (loopF t mb (ds.drop (i + 1)) sl' S') :=
          ⟨g3, sl3, S3, (st.trans ((st2.toS (lv := false)).toSA)).trans s3, r3, p3⟩
        exact ⟨z, z⟩
    · rintro σ' H' ⟨g', sl', S', st, r', p'⟩
      rw [List.drop_length] at p'
      exact p' g' H' σ' Stp.refl r'
theorem ss_while (n : Nat) (hp : PassesOwn (model X.prog X.w) X.A X.env X.xe) (hc : ST X B.J Γ c mt) (hb : SSs X { B with ΓL := Γ } Γ Γ body mb) (hX : leG B.ΓX Γ = true := by rfl) : SS X B Γ Γ (.While c body [] pos) (whileF mt mb n) :=
  PS.imp (ps_while hp hc hb) fun E σ H q => by
    obtain ⟨g, sl, S, r, p⟩ := tSt_iff.mp q
    refine ⟨fun k σ' H' => ∃ g' sl' S', Rel X.K B.J.C Γ g' sl' S' σ' H' ∧ PSt X.K B Γ E g' H' (whileF mt mb k sl' S'), ⟨n, g, sl, S, r, p⟩, ?_⟩
    rintro k σ' H' ⟨g', sl', S', r', p'⟩
    cases k with
    | zero => exact False.elim p'
    | succ k =>
      unfold whileF at p'
      refine csT r' p' hX fun g1 H1 d S1 st1 r1 p1 => ?_
      cases d with
      | false => exact p1 g1 H1 σ' Stp.refl r1
      | true =>
        refine ⟨fun σ2 H2 => ∃ g' sl' S', Rel X.K B.J.C Γ g' sl' S' σ2 H2 ∧ PSt X.K B Γ E g' H2 (whileF mt mb k sl' S'), fun σ2 H2 h => ⟨k, Nat.lt_succ_self _, h⟩, tSt_iff.mpr ⟨g1, sl', S1, r1, ?_⟩⟩
        refine body_post (E := E) (k := whileF mt mb k) rfl rfl (fun g3 H3 σ3 sl3 S3 s3 r3 p3 => ⟨⟨g3, sl3, S3, r3, p3⟩, ⟨g3, sl3, S3, r3, p3⟩⟩) p1
end

/-! ### a cell that is written -/
theorem stp_upd {c : Ow → Bool} {g : Gh} {H : Hp} {p : Addr} {w : Ow} {o : HO} (hw : g.own p = some w) (hc : c w = true) (hp : H p ≠ none) : Stp c g H g (upd H p o) :=
  ⟨Same.refl _, fun a u h q => by
    have z : a ≠ p := fun z => by have := q w (by rw [z]; exact hw); rw [hc] at this; cases this
    rw [upd_ne z]; exact h, fun a h => by
    by_cases z : a = p
    · rw [z, upd_same] at h; cases h
    · rw [upd_ne z] at h; exact h, fun _ _ h _ => h, fun _ _ h => .inl h, fun _ _ h => .inl h, fun _ _ h => h⟩
section
variable {K : PySem.W.Frag} {C : Cfg} {Γ : List Bool} {g : Gh} {sl : List (Option D)} {S : Sto} {σ : L2.St} {H : Hp}
theorem sub_upd {p : Addr} {w : Ow} {o : HO} (s : StoOk K C g H S) (hw : g.own p = some w) : Same g.G (upd H p o) := fun a u h => by
  have z : a ≠ p := fun z => by rw [z, (s.fro p w hw).1] at h; cases h
  rw [upd_ne z]; exact s.sub a u h
theorem own_inj {p q : Addr} {w : Ow} {v : Ow} (h : g.own p = some w) (k : g.own q = some v) (ne : w ≠ v) : p ≠ q := fun z => by rw [z, k] at h; cases h; exact ne rfl
theorem rel_updS {p : Addr} {i : Nat} {d : D} {o : HO} (r : Rel K C Γ g sl S σ H) (hp : g.own p = some (.slot i)) (hσ : σ[i]? = some (some (.ref p))) (hΓ : Γ.getD i false = true) (hc : Cell K C g (upd H p o) p d) :
    Rel K C Γ g (sl.set i (some d)) S σ (upd H p o) := by
  have hH : H p ≠ none := (r.sto.fro p _ hp).2
  refine ⟨?_, by rw [List.length_set]; exact r.len, fun j e q hj => ?_, fun j e q hj => ?_, fun c q => ⟨fun hj => ?_, (r.cau c q).2⟩⟩
  rotate_left 3
  · have := cau_set (v := some (.ref p)) (r.cau c q).1 hj
    by_cases z : i = c.i
    · rw [← z] at this ⊢; rw [hσ]; rw [← this, List.getElem?_set_self (List.getElem?_eq_some_iff.mp hσ).1]
    · rwa [List.getElem?_set_ne z] at this
  · refine sto_keep r.sto (sub_upd r.sto hp) rfl (Same.refl _) (fun a u h => ⟨(r.sto.fro a u h).1, ?_⟩) fun a u h hw => ⟨h, by rw [upd_ne (own_inj h hp (hw i))]⟩
    by_cases z : a = p
    · rw [z, upd_same]; exact fun z => by cases z
    · rw [upd_ne z]; exact (r.sto.fro a u h).2
  · have z : i ≠ j := fun z => by rw [← z, hΓ] at hj; cases hj
    rw [List.getElem?_set_ne z] at q
    exact r.slF j e q hj
  · by_cases z : i = j
    · subst z
      have hi : i < sl.length := by
        have := (List.getElem?_eq_some_iff.mp q).1
        rw [List.length_set] at this; exact this
      rw [List.getElem?_set_self hi] at q
      cases q
      exact ⟨p, hσ, hp, hc⟩
    · rw [List.getElem?_set_ne z] at q
      obtain ⟨a, h1, h2, h3⟩ := r.slO j e q hj
      exact ⟨a, h1, h2, h3.mono (upd_ne (own_inj h2 hp fun q => by cases q; exact z rfl)) (Same.refl _) fun _ _ z => z⟩
end

/-! ### methods that change a list of the frame's or an object's own -/
def OwnOp (K : PySem.W.Frag) (r : V → List V → Hp → VK → Prop) (f : D → List D → Option (D × D)) : Prop :=
  ∀ (C : Cfg) (g : Gh) (H : Hp) (l : Addr) (d z d' : D) (args : List D) (vs : List V) (Q : VK), f d args = some (z, d') → Cell K C g H l d → Reps K C g.G g.ρ args vs →
    (∀ v o, Rep K C g.G g.ρ z v → Cell K C g (upd H l o) l d' → Q v (upd H l o)) → r (.ref l) vs H Q
section
variable {K : PySem.W.Frag}
def oAppend : D → List D → Option (D × D)
  | .lst xs, [y] => if xs.length < sizeLine then some (.non, .lst (xs ++ [y])) else none
  | _, _ => none
theorem oo_append : OwnOp K rAppend oAppend := by
  intro C g H l d z d' args vs Q h c rs k
  unfold oAppend at h
  split at h
  · split at h
    · rename_i hs
      cases h
      obtain ⟨us, e, ru⟩ := c
      cases rs with
      | cons r1 r2 =>
        cases r2
        exact ⟨l, us, _, rfl, rfl, e, by rw [← ru.length]; exact hs, k _ _ .non ⟨_, upd_same, ru.append (.cons r1 .nil)⟩⟩
    · cases h
  · cases h
def oPop : D → List D → Option (D × D)
  | .lst xs, [] => match xs.getLast? with
    | some y => some (y, .lst xs.dropLast)
    | none => none
  | _, _ => none
theorem Reps.dropLast {C : Cfg} {G : Hp} {ρ : List Addr} {ds : List D} {vs : List V} (r : Reps K C G ρ ds vs) : Reps K C G ρ ds.dropLast vs.dropLast := by
  rw [List.dropLast_eq_take, List.dropLast_eq_take, r.length]
  exact r.take _
theorem oo_pop : OwnOp K rPop oPop := by
  intro C g H l d z d' args vs Q h c rs k
  unfold oPop at h
  split at h
  · split at h
    · rename_i y hy
      cases h
      obtain ⟨us, e, ru⟩ := c
      cases rs
      rw [List.getLast?_eq_getElem?] at hy
      obtain ⟨v, h1, h2⟩ := ru.get hy
      exact ⟨l, us, v, rfl, rfl, e, by rw [← ru.length]; exact h1, k _ _ h2 ⟨_, upd_same, ru.dropLast⟩⟩
    · cases h
  · cases h
def oReverse : D → List D → Option (D × D)
  | .lst xs, [] => some (.non, .lst xs.reverse)
  | _, _ => none
theorem oo_reverse : OwnOp K rReverse oReverse := by
  intro C g H l d z d' args vs Q h c rs k
  unfold oReverse at h
  split at h
  · cases h
    obtain ⟨us, e, ru⟩ := c
    cases rs
    exact ⟨l, us, rfl, rfl, e, k _ _ .non ⟨_, upd_same, ru.reverse⟩⟩
  · cases h
def oClear : D → List D → Option (D × D)
  | .lst xs, [] => some (.non, .lst [])
  | _, _ => none
theorem oo_clear : OwnOp K rClear oClear := by
  intro C g H l d z d' args vs Q h c rs k
  unfold oClear at h
  split at h
  · cases h
    obtain ⟨us, e, ru⟩ := c
    cases rs
    exact ⟨l, us, rfl, rfl, e, k _ _ .non ⟨_, upd_same, .nil⟩⟩
  · cases h
end
def isLst : D → Bool
  | .lst _ => true
  | _ => false
/-- the frame's own list in slot i: with the arguments; the result goes on -/
def mOwnS (f : D → List D → Option (D × D)) (i : Nat) (ma : Mx (List D)) (k : D → Ms) : Ms := fun sl S => match sl[i]? with
  | some (some d) => if isLst d = true then bindS ma (fun as sl S => match f d as with
    | some (z, d') => k z (sl.set i (some d')) S
    | none => .stuck) sl S else .stuck
  | _ => .stuck
section
variable {X : Cx} {B : Js} {Γ Γ' Γ1 Γ2 : List Bool} {e tg c iter : Expr} {es : List Expr} {me ma : Mx D} {ms : Mx (List D)} {pos p2 apos cpos : Pos} {t : Tg} {gt : TG} {vs : List Nat} {id : String} {name x : Str} {r : V → List V → Hp → VK → Prop} {f : D → List D → Option (D × D)}
theorem ownS_run {K : PySem.W.Frag} {E : Ends} {σ : L2.St} {H : Hp} {i : Nat} {k : D → Ms} {R : VK} {ta : TA} (hf : OwnOp K r f) (hΓ : Γ.getD i false = true) (hX : leG B.ΓX Γ = true) (ha : ∀ σ H Q, tDs K B.J Γ ms σ H Q → ta σ H Q)
    (q : tSt K B Γ Γ' (mOwnS f i ms k) E σ H)
    (h : ∀ g' H' d v sl' S', Rel K B.J.C Γ g' sl' S' σ H' → Rep K B.J.C g'.G g'.ρ d v → PSt K B Γ' E g' H' (k d sl' S') → R v H') :
    tBM K "list" r (tVar i) ta σ H R := by
  obtain ⟨g, sl, S, rl, p⟩ := tSt_iff.mp q
  unfold mOwnS at p
  cases e0 : sl[i]? with
  | none => rw [e0] at p; exact False.elim p
  | some od =>
    cases od with
    | none => rw [e0] at p; exact False.elim p
    | some d =>
      rw [e0] at p
      obtain ⟨a, h1, h2, h3⟩ := rl.slO i d e0 hΓ
      by_cases hl : isLst d = true
      · have p : PSt K B Γ' E g H (if isLst d = true then bindS ms (fun as sl S => match f d as with | some (z, d') => k z (sl.set i (some d')) S | none => .stuck) sl S else .stuck) := p
        rw [if_pos hl] at p
        have ty : tyV K "list" (.ref a) H := by
          cases d <;> first | cases hl | skip
          obtain ⟨us, e, _⟩ := h3
          exact Or.inl ⟨rfl, us, SqL.of e⟩
        refine ⟨.ref a, h1, ty, ha _ _ _ (csDs rl p hX fun g1 H1 as S1 vs st1 r1 b1 p1 => ?_)⟩
        obtain ⟨a', k1, k2, k3⟩ := r1.slO i d e0 hΓ
        have e1 : a' = a := by rw [k1] at h1; cases h1; rfl
        subst e1
        cases ef : f d as with
        | none => rw [ef] at p1; exact False.elim p1
        | some zd =>
          obtain ⟨z, d'⟩ := zd
          rw [ef] at p1
          refine hf B.J.C g1 H1 a' d z d' as vs R ef k3 b1 fun v o hv hc => ?_
          exact h g1 _ z v _ S1 (rel_updS r1 k2 k1 hΓ hc) hv (PSt.step (stp_upd k2 rfl (r1.sto.fro _ _ k2).2) p1)
      · have p : PSt K B Γ' E g H (if isLst d = true then bindS ms (fun as sl S => match f d as with | some (z, d') => k z (sl.set i (some d')) S | none => .stuck) sl S else .stuck) := p
        rw [if_neg hl] at p
        exact False.elim p
/-- xs.m(e, ..): hc by pe_bm -/
theorem ss_ownDo {call : Expr} (i : Nat) (hc : PE X call (tBM X.K "list" r (tVar i) (tDs X.K B.J Γ ms))) (hf : OwnOp X.K r f) (hΓ : Γ.getD i false = true := by rfl) (hX : leG B.ΓX Γ = true := by rfl)
    (hs : swapsWith call none pos.line X.env = pure false := by rfl) : SS X B Γ Γ (.Expr call pos) (mOwnS f i ms fun _ => mSkip) :=
  PS.imp (ps_expr hc hs) fun E σ H q => ownS_run (K := X.K) hf hΓ hX (fun _ _ _ z => z) q fun g' H' d v sl' S' rl hv p => p g' H' σ Stp.refl rl
theorem bm0_bm {K : PySem.W.Frag} {σ : L2.St} {H : Hp} {R : VK} {to : TE} (h : tBM K "list" r to tNil σ H R → Prop) : True := trivial
theorem nil_run {K : PySem.W.Frag} {J : Jd} : ∀ (σ : L2.St) (H : Hp) (Q : List V → Hp → Prop), tDs K J Γ mNil σ H Q → tNil σ H Q := fun σ H Q z => by
  obtain ⟨g, sl, S, r, p⟩ := tDs_iff.mp z
  exact p g H [] Stp.refl r .nil
/-- xs.m(): hc by pe_bm0 -/
theorem ss_ownDo0 {call : Expr} (i : Nat) (hc : PE X call (tBM0 X.K "list" r (tVar i))) (hf : OwnOp X.K r f) (hΓ : Γ.getD i false = true := by rfl) (hX : leG B.ΓX Γ = true := by rfl)
    (hs : swapsWith call none pos.line X.env = pure false := by rfl) : SS X B Γ Γ (.Expr call pos) (mOwnS f i mNil fun _ => mSkip) :=
  PS.imp (ps_expr hc hs) fun E σ H q =>
    (ownS_run (K := X.K) (R := fun _ H1 => E.nx σ H1) hf hΓ hX nil_run q fun g' H' d v sl' S' rl hv p => p g' H' σ Stp.refl rl : tBM X.K "list" r (tVar i) tNil σ H fun _ H1 => E.nx σ H1)
/-- target = xs.m() -/
theorem ss_ownGet0 {call : Expr} (i : Nat) (hc : PE X call (tBM0 X.K "list" r (tVar i))) (hf : OwnOp X.K r f) (hg : STg X B.J.C Γ Γ' vs tg t gt) (hΓ : Γ.getD i false = true := by rfl) (hX : leG B.ΓX Γ = true := by rfl)
    (hs : swapsWithSole [tg] call pos.line X.env = pure false := by rfl) (hw : swappedStores [tg] call X.env = pure none := by rfl) (h1 : (assignEach [tg] X.env).map (·.2) = [assign tg X.env] := by rfl) :
    SS X B Γ Γ' (.Assign [tg] call pos) (mOwnS f i mNil fun d sl S => match t d sl with | some sl' => .next sl' S | none => .stuck) :=
  PS.imp (ps_asg hc hg.1 hs hw h1) fun E σ H q =>
    (ownS_run (K := X.K) (R := fun x H1 => gt x σ H1 E.nx) hf hΓ hX nil_run q fun g' H' d v sl' S' rl hv p => by
      cases et : t d sl' with
      | none => rw [et] at p; exact False.elim p
      | some sl2 =>
        rw [et] at p
        exact hg.2 g' sl' sl2 S' σ H' d v _ rl hv et fun σ' _ r' => p g' H' σ' Stp.refl r' : tBM X.K "list" r (tVar i) tNil σ H fun x H1 => gt x σ H1 E.nx)
/-- xs[i] = e, the frame's own list -/
def mSetIx (i : Nat) (mi me : Mx D) : Ms := bindS me fun d sl S => match sl[i]? with
  | some (some (.lst xs)) => bindS mi (fun k sl S => match k with
    | .int z => match ixN xs.length z with
      | some j => .next (sl.set i (some (.lst (xs.set j d)))) S
      | none => .stuck
    | _ => .stuck) sl S
  | _ => .stuck
theorem ss_setIx (i : Nat) {p3 : Pos} {ei : Expr} {mi : Mx D} (he : SD X B.J Γ e me) (hi : SD X B.J Γ ei mi) (hΓ : Γ.getD i false = true := by rfl) (hX : leG B.ΓX Γ = true := by rfl)
    (hN : X.N[i]? = some x := by rfl) (hv : Vis X.env.scope x := by first | exact Or.inl rfl | exact Or.inr (Or.inl rfl) | exact Or.inr (Or.inr rfl)) (hd : (x == ("__debug__" : Str)) = false := by decide) (hcd : (x == ("__classdict__" : Str)) = false := by decide)
    (hg : PE X (.Name x p2) (tVar i) → PE X ei (tD X.K B.J Γ mi) → PG X (.Subscript (.Name x p2) ei p3) (gSub (tVar i) (tD X.K B.J Γ mi) rSetL) := by exact fun h1 h2 => pg_sub h1 h2 set_list)
    (hs : swapsWithSole [.Subscript (.Name x p2) ei p3] e pos.line X.env = pure false := by rfl) (hw : swappedStores [.Subscript (.Name x p2) ei p3] e X.env = pure none := by rfl)
    (h1 : (assignEach [.Subscript (.Name x p2) ei p3] X.env).map (·.2) = [assign (.Subscript (.Name x p2) ei p3) X.env] := by rfl) :
    SS X B Γ Γ (.Assign [.Subscript (.Name x p2) ei p3] e pos) (mSetIx i mi me) :=
  PS.imp (ps_asg he (hg (pe_var hN hv hd hcd) hi) hs hw h1) fun E σ H q => by
    obtain ⟨g, sl, S, rl, p⟩ := tSt_iff.mp q
    refine csD rl p hX fun g1 H1 d S1 y st1 r1 b1 p1 => ?_
    cases e0 : sl[i]? with
    | none => rw [e0] at p1; exact False.elim p1
    | some od =>
      cases od with
      | none => rw [e0] at p1; exact False.elim p1
      | some dl =>
        rw [e0] at p1
        cases dl <;> first | exact False.elim p1 | skip
        rename_i xs
        obtain ⟨a, h1, h2, h3⟩ := r1.slO i _ e0 hΓ
        refine ⟨.ref a, h1, csD (B := B) (Γ' := Γ) (E := E) r1 p1 hX fun g2 H2 k S2 z st2 r2 b2 p2 => ?_⟩
        cases k <;> first | exact False.elim p2 | skip
        rename_i zi
        have p2 : PSt X.K B Γ E g2 H2 (match ixN xs.length zi with | some j => .next (sl.set i (some (.lst (xs.set j d)))) S2 | none => .stuck) := p2
        cases ej : ixN xs.length zi with
        | none => rw [ej] at p2; exact False.elim p2
        | some j =>
          rw [ej] at p2
          cases b2
          obtain ⟨a', k1, k2, us, k3, k4⟩ := r2.slO i _ e0 hΓ
          have e1 : a' = a := by rw [k1] at h1; cases h1; rfl
          subst e1
          refine ⟨a', us, zi, j, rfl, rfl, k3, by rw [← k4.length]; exact ej, ?_⟩
          have cl : Cell X.K B.J.C g2 (upd H2 a' (.lst (us.set j y))) a' (.lst (xs.set j d)) := ⟨_, upd_same, Reps.set (b1.step st2) j k4⟩
          exact p2 g2 _ σ (stp_upd k2 rfl (by rw [k3]; exact fun z => by cases z)) (rel_updS r2 k2 k1 hΓ cl)
end
end Sm
set_option Elab.async false
set_option linter.all false
set_option maxRecDepth 100000
set_option maxHeartbeats 1000000
/-! Sim 8: attributes of objects, augmented assignments. -/
namespace Sm
open PySem PySem.Spec PyProof.Rows L2

/-- what the classes of the text are -/
structure CfgOk (K : PySem.W.Frag) (C : Cfg) : Prop where
  at_ : ∀ (c k : Nat) (n : Str), (C.fl c)[k]? = some n → Cls K (C.ca c) ∧ NoAttr K (C.ca c) n
  few : ∀ c, (C.fl c).length ≤ 100
  nd : ∀ c, (C.fl c).Nodup
def chkF (fl : Nat → List Str) (ow : Nat → Nat → Bool) (f : Str) (cs : List (Nat × Nat)) : Bool := cs.all fun p => decide ((fl p.1)[p.2]? = some f) && !ow p.1 p.2
def chkO (fl : Nat → List Str) (f : Str) (cs : List (Nat × Nat)) : Bool := cs.all fun p => decide ((fl p.1)[p.2]? = some f)
theorem lookup_mem : ∀ {cs : List (Nat × Nat)} {c k : Nat}, cs.lookup c = some k → (c, k) ∈ cs
  | [], _, _, h => by cases h
  | (a, b) :: r, c, k, h => by
    by_cases z : c = a
    · subst z; simp [List.lookup] at h; subst h; exact List.mem_cons_self
    · have e : (c == a) = false := by simpa using z
      simp only [List.lookup, e] at h
      exact List.mem_cons_of_mem _ (lookup_mem h)
theorem chkF_at {fl : Nat → List Str} {ow : Nat → Nat → Bool} {f : Str} {cs : List (Nat × Nat)} {c k : Nat} (h : chkF fl ow f cs = true) (e : cs.lookup c = some k) : (fl c)[k]? = some f ∧ ow c k = false := by
  have q := List.all_eq_true.mp h _ (lookup_mem e)
  simp only [Bool.and_eq_true, decide_eq_true_eq, Bool.not_eq_true'] at q
  exact q
theorem chkO_at {fl : Nat → List Str} {f : Str} {cs : List (Nat × Nat)} {c k : Nat} (h : chkO fl f cs = true) (e : cs.lookup c = some k) : (fl c)[k]? = some f := by
  have q := List.all_eq_true.mp h _ (lookup_mem e)
  simpa using q
theorem repF_at {K : PySem.W.Frag} {C : Cfg} {G : Hp} {ρ : List Addr} : ∀ {ns : List Str} {ds : List (Option D)} {fs : List (Str × V)} {k : Nat} {n : Str} {d : D}, RepF K C G ρ ns ds fs → ns[k]? = some n → ds[k]? = some (some d) → ∃ v, fs.lookup n = some v ∧ Rep K C G ρ d v
  | _, _, _, _, _, _, .nil, e, _ => by simp at e
  | _, _, _, 0, _, _, .none _ _, _, h => by simp at h
  | _, _, _, k + 1, _, _, .none _ r, e, h => repF_at (k := k) r (by simpa using e) (by simpa using h)
  | _, _, _, 0, _, _, .some q r _, e, h => by simp at e h; subst e; subst h; exact ⟨_, q, r⟩
  | _, _, _, k + 1, _, _, .some _ _ r, e, h => repF_at (k := k) r (by simpa using e) (by simpa using h)

/-- o.f: cs tells the attribute's place by the class -/
def rdF (cs : List (Nat × Nat)) (d : D) (S : Sto) : Option D := match d with
  | .obj c fs => match cs.lookup c with
    | some k => (fs[k]?).join
    | none => none
  | .ref i => match S[i]? with
    | some ob => match cs.lookup ob.c with
      | some k => (ob.fs[k]?).join
      | none => none
    | none => none
  | _ => none
def mFld (cs : List (Nat × Nat)) (m : Mx D) : Mx D := bindX m fun d sl S => match rdF cs d S with
  | some z => .ok z S
  | none => .stuck
theorem join_some {α : Type} {o : Option (Option α)} {a : α} (h : o.join = some a) : o = some (some a) := by
  cases o with
  | none => cases h
  | some x => cases x with
    | none => cases h
    | some y => cases h; rfl
section
variable {X : Cx} {J : Jd} {B : Js} {Γ Γ' : List Bool} {o e : Expr} {mo me : Mx D} {ms : Mx (List D)} {f : Str} {pos pos' tpos : Pos} {cs : List (Nat × Nat)}
theorem fld_view {K : PySem.W.Frag} {C : Cfg} {g : Gh} {H : Hp} {S : Sto} {d z : D} {x : V} {f : Str} {cs : List (Nat × Nat)} (hC : CfgOk K C) (s : StoOk K C g H S) (hd : Rep K C g.G g.ρ d x) (e : rdF cs d S = some z) (hcs : chkO C.fl f cs = true) :
    ∃ a Ca dx fs v, x = .ref a ∧ H a = some (.ins Ca dx fs) ∧ Cls K Ca ∧ NoAttr K Ca f ∧ fs.lookup f = some v ∧
      ((∃ c k, cs.lookup c = some k ∧ Rep K C g.G g.ρ z v) ∨ ∃ i c k p, cs.lookup c = some k ∧ C.ow c k = true ∧ v = .ref p ∧ g.own p = some (.fld i k) ∧ Cell K C g H p z) := by
  unfold rdF at e
  split at e
  · rename_i c fs
    cases hk : cs.lookup c with
    | none => rw [hk] at e; cases e
    | some k =>
      rw [hk] at e
      have e := join_some e
      have hf := chkO_at hcs hk
      obtain ⟨hcl, hno⟩ := hC.at_ _ _ _ hf
      cases hd with
      | @obj _ a dx fv _ hG hr hno' =>
        obtain ⟨v, h1, h2⟩ := repF_at hr hf e
        exact ⟨a, _, dx, fv, v, rfl, s.sub _ _ hG, hcl, hno, h1, .inl ⟨c, k, hk, h2⟩⟩
  · rename_i i
    cases hi : S[i]? with
    | none => rw [hi] at e; cases e
    | some ob =>
      rw [hi] at e
      have e : (match cs.lookup ob.c with | some k => (ob.fs[k]?).join | none => none) = some z := e
      cases hk : cs.lookup ob.c with
      | none => rw [hk] at e; cases e
      | some k =>
        rw [hk] at e
        have e := join_some e
        have hf := chkO_at hcs hk
        obtain ⟨hcl, hno⟩ := hC.at_ _ _ _ hf
        obtain ⟨a, dx, fv, h1, h2⟩ := s.ob i ob hi
        cases hd with
        | ref hρ =>
          rw [h1] at hρ; cases hρ
          obtain ⟨v, q1, q2⟩ := h2.fld k f (some z) hf e
          refine ⟨a, _, dx, fv, v, rfl, h2.at_, hcl, hno, q1, ?_⟩
          by_cases hw : C.ow ob.c k = true
          · rw [if_pos hw] at q2
            obtain ⟨p, hp, ho, hc⟩ := q2
            exact .inr ⟨i, ob.c, k, p, hk, hw, hp, ho, hc⟩
          · rw [if_neg hw] at q2
            exact .inl ⟨ob.c, k, hk, q2⟩
  · cases e
theorem sd_fld (cs : List (Nat × Nat)) (hC : CfgOk X.K J.C) (ho : SD X J Γ o mo) (hcs : chkF J.C.fl J.C.ow f cs = true := by rfl) (hb : attributeBase o f X.env (eval o X.env) = eval o X.env := by rfl) : SD X J Γ (.Attribute o f pos) (mFld cs mo) :=
  PE.imp (pe_fld ho hb) fun σ H Q q => by
    obtain ⟨g, sl, S, rl, p⟩ := tD_iff.mp q
    refine chD postD rl p fun g1 H1 d S1 x st1 r1 b1 p1 => ?_
    cases e : rdF cs d S1 with
    | none => rw [e] at p1; exact False.elim p1
    | some z =>
      rw [e] at p1
      have hO : chkO J.C.fl f cs = true := List.all_eq_true.mpr fun p hp => by
        have q := List.all_eq_true.mp hcs p hp
        simp only [Bool.and_eq_true] at q
        exact q.1
      obtain ⟨a, Ca, dx, fs, v, h1, h2, h3, h4, h5, h6⟩ := fld_view hC r1.sto b1 e hO
      refine ⟨a, Ca, dx, fs, v, h1, h2, h3, h4, h5, ?_⟩
      rcases h6 with ⟨c, k, hk, h6⟩ | ⟨i, c, k, p, hk, hw, _⟩
      · exact PD.now p1 r1 h6
      · rw [(chkF_at hcs hk).2] at hw; cases hw
theorem sb_fld (cs : List (Nat × Nat)) (hC : CfgOk X.K J.C) (ho : SD X J Γ o mo) (hl : J.lv = false := by rfl) (hcs : chkO J.C.fl f cs = true := by rfl) (hb : attributeBase o f X.env (eval o X.env) = eval o X.env := by rfl) : SB X J Γ (.Attribute o f pos) (mFld cs mo) :=
  PE.imp (pe_fld ho hb) fun σ H Q q => by
    obtain ⟨g, sl, S, rl, p⟩ := tBo_iff.mp q
    refine chD postB rl p fun g1 H1 d S1 x st1 r1 b1 p1 => ?_
    cases e : rdF cs d S1 with
    | none => rw [e] at p1; exact False.elim p1
    | some z =>
      rw [e] at p1
      obtain ⟨a, Ca, dx, fs, v, h1, h2, h3, h4, h5, h6⟩ := fld_view hC r1.sto b1 e hcs
      refine ⟨a, Ca, dx, fs, v, h1, h2, h3, h4, h5, p1 g1 H1 v Stp.refl r1 ?_⟩
      rcases h6 with ⟨c, k, hk, h6⟩ | ⟨i, c, k, p, hk, hw, rfl, ho, hc⟩
      · exact .inl h6
      · exact .inr ⟨p, _, rfl, ho, by rw [hl]; rfl, hc⟩

/-! ### stores to attributes -/
theorem cnt_set_none {fs : List (Option D)} {k : Nat} {d : D} (h : fs[k]? = some none) : cnt (fs.set k (some d)) = cnt fs + 1 := by
  unfold cnt
  induction fs generalizing k with
  | nil => simp at h
  | cons a r ih =>
    cases k with
    | zero => simp at h; subst h; simp [List.filter]
    | succ k =>
      have := ih (k := k) (by simpa using h)
      cases a <;> simp [List.filter] <;> omega
theorem cnt_set_some {fs : List (Option D)} {k : Nat} {d d' : D} (h : fs[k]? = some (some d')) : cnt (fs.set k (some d)) = cnt fs := by
  unfold cnt
  induction fs generalizing k with
  | nil => simp at h
  | cons a r ih =>
    cases k with
    | zero => simp at h; subst h; simp [List.filter]
    | succ k =>
      have := ih (k := k) (by simpa using h)
      cases a <;> simp [List.filter] <;> omega
theorem putF_len_none {f : Str} {v : V} : ∀ {fs : List (Str × V)}, fs.lookup f = none → (putF f v fs).length = fs.length + 1
  | [], _ => rfl
  | (g, x) :: r, h => by
    unfold putF
    by_cases z : g = f
    · subst z; simp [List.lookup] at h
    · rw [if_neg z]
      have e : (f == g) = false := by simpa using fun q : f = g => z q.symm
      simp only [List.lookup, e] at h
      simp [putF_len_none h]
theorem putF_len_some {f : Str} {v w : V} : ∀ {fs : List (Str × V)}, fs.lookup f = some w → (putF f v fs).length = fs.length
  | [], h => by cases h
  | (g, x) :: r, h => by
    unfold putF
    by_cases z : g = f
    · rw [if_pos z]; rfl
    · rw [if_neg z]
      have e : (f == g) = false := by simpa using fun q : f = g => z q.symm
      simp only [List.lookup, e] at h
      simp [putF_len_some h]
theorem nodup_get {l : List Str} (h : l.Nodup) {i j : Nat} {x : Str} (a : l[i]? = some x) (b : l[j]? = some x) : i = j := nd_ix h a b
/-- an object's attribute is set: new ghost g', the value's cell may be claimed -/
theorem sto_setF {K : PySem.W.Frag} {C : Cfg} {g g' : Gh} {H : Hp} {S : Sto} {i k : Nat} {ob : Ob} {a dx : Addr} {fs : List (Str × V)} {n : Str} {d : D} {v : V} (hC : CfgOk K C) (s : StoOk K C g H S) (hi : S[i]? = some ob) (hρ : g.ρ[i]? = some a) (o : ObOk K C g H i ob a dx fs)
    (hk : (C.fl ob.c)[k]? = some n) (hG : g'.G = g.G) (hρ' : g'.ρ = g.ρ) (ho : ∀ b w, g.own b = some w → g'.own b = some w) (hfro : ∀ b w, g'.own b = some w → g'.G b = none ∧ H b ≠ none)
    (hv : FldOk K C g' (upd H a (.ins (C.ca ob.c) dx (putF n v fs))) i k (C.ow ob.c k) (some d) (some v)) : StoOk K C g' (upd H a (.ins (C.ca ob.c) dx (putF n v fs))) (S.set i ⟨ob.c, ob.fs.set k (some d)⟩) := by
  have nea : ∀ {b w}, g.own b = some w → w ≠ .obj i → b ≠ a := fun {b w} h ne => own_inj h o.own ne
  refine ⟨fun b u h => ?_, fun b w h => ⟨(hfro b w h).1, ?_⟩, by rw [List.length_set, hρ']; exact s.rlen, fun j ob' hj => ?_⟩
  · rw [hG] at h
    have z : b ≠ a := fun z => by rw [z, (s.fro a _ o.own).1] at h; cases h
    rw [upd_ne z]; exact s.sub b u h
  · by_cases z : b = a
    · rw [z, upd_same]; exact fun z => by cases z
    · rw [upd_ne z]; exact (hfro b w h).2
  · by_cases z : i = j
    · subst z
      have hl : i < S.length := (List.getElem?_eq_some_iff.mp hi).1
      rw [List.getElem?_set_self hl] at hj
      cases hj
      have hkl : k < ob.fs.length := by rw [o.len]; exact (List.getElem?_eq_some_iff.mp hk).1
      refine ⟨a, dx, putF n v fs, by rw [hρ']; exact hρ, upd_same, ho _ _ o.own, by rw [List.length_set]; exact o.len, fun j m od hm hod => ?_, fun m hm => ?_, ?_⟩
      · by_cases z : k = j
        · subst z
          have e : m = n := by rw [hk] at hm; cases hm; rfl
          subst e
          have hod : (ob.fs.set k (some d))[k]? = some od := hod
          rw [List.getElem?_set_self hkl] at hod
          cases hod
          rw [lookup_putF, if_pos rfl]
          exact hv
        · have hod : (ob.fs.set k (some d))[j]? = some od := hod
          rw [List.getElem?_set_ne z] at hod
          have hm' : (C.fl ob.c)[j]? = some m := hm
          have ne : m ≠ n := fun q => z (nodup_get (hC.nd _) hk (q ▸ hm'))
          rw [lookup_putF, if_neg ne]
          have q := o.fld j m od hm' hod
          cases od with
          | none => exact q
          | some d' =>
            obtain ⟨v', q1, q2⟩ := q
            refine ⟨v', q1, ?_⟩
            by_cases hw : C.ow ob.c j = true
            · rw [if_pos hw] at q2 ⊢
              obtain ⟨p, hp, hop, hc⟩ := q2
              exact ⟨p, hp, ho _ _ hop, hc.mono (upd_ne (nea hop fun q => by cases q)) (by rw [hG]; exact Same.refl _) (by rw [hρ']; exact fun _ _ z => z)⟩
            · rw [if_neg hw] at q2 ⊢
              rw [hG, hρ']; exact q2
      · rw [lookup_putF, if_neg (fun q => hm (by rw [q]; exact List.mem_of_getElem? hk))]
        exact o.no m hm
      · show (putF n v fs).length ≤ cnt (ob.fs.set k (some d))
        obtain ⟨od, hod⟩ : ∃ od, ob.fs[k]? = some od := ⟨_, List.getElem?_eq_getElem hkl⟩
        have q := o.fld k n od hk hod
        cases od with
        | none => rw [putF_len_none q, cnt_set_none hod]; exact Nat.succ_le_succ o.few
        | some d' =>
          obtain ⟨v', q1, _⟩ := q
          rw [putF_len_some q1, cnt_set_some hod]; exact o.few
    · rw [List.getElem?_set_ne z] at hj
      obtain ⟨b, bx, bs, h1, o'⟩ := s.ob j ob' hj
      have hb : b ≠ a := own_inj o'.own o.own fun q => by cases q; exact z rfl
      refine ⟨b, bx, bs, by rw [hρ']; exact h1, by rw [upd_ne hb]; exact o'.at_, ho _ _ o'.own, o'.len, fun l m od hm hod => ?_, o'.no, o'.few⟩
      have q := o'.fld l m od hm hod
      cases od with
      | none => exact q
      | some d' =>
        obtain ⟨v', q1, q2⟩ := q
        refine ⟨v', q1, ?_⟩
        by_cases hw : C.ow ob'.c l = true
        · rw [if_pos hw] at q2 ⊢
          obtain ⟨p, hp, hop, hc⟩ := q2
          exact ⟨p, hp, ho _ _ hop, hc.mono (upd_ne (nea hop fun q => by cases q)) (by rw [hG]; exact Same.refl _) (by rw [hρ']; exact fun _ _ z => z)⟩
        · rw [if_neg hw] at q2 ⊢
          rw [hG, hρ']; exact q2
theorem few_lt {K : PySem.W.Frag} {C : Cfg} {g : Gh} {H : Hp} {i : Nat} {ob : Ob} {a dx : Addr} {fs : List (Str × V)} (hC : CfgOk K C) (o : ObOk K C g H i ob a dx fs) : fs.length < 1000 := by
  have h1 := o.few
  have h2 : cnt ob.fs ≤ ob.fs.length := List.length_filter_le _ _
  have h3 := o.len
  have h4 := hC.few ob.c
  omega
/-- o.f = e, o an object of the class c, f its k-th attribute -/
def wrF (c k : Nat) (d r : D) (S : Sto) : Option Sto := match r with
  | .ref i => match S[i]? with
    | some ob => if ob.c = c then some (S.set i ⟨ob.c, ob.fs.set k (some d)⟩) else none
    | none => none
  | _ => none
def mSetF (c k : Nat) (mo me : Mx D) : Ms := bindS me fun d => bindS mo fun r sl S => match wrF c k d r S with
  | some S' => .next sl S'
  | none => .stuck
theorem wrF_of {c k : Nat} {d r : D} {S S' : Sto} (h : wrF c k d r S = some S') : ∃ i ob, r = .ref i ∧ S[i]? = some ob ∧ ob.c = c ∧ S' = S.set i ⟨ob.c, ob.fs.set k (some d)⟩ := by
  unfold wrF at h
  split at h
  · split at h
    · rename_i ob hi
      split at h
      · rename_i hc
        cases h
        exact ⟨_, ob, rfl, hi, hc, rfl⟩
      · cases h
    · cases h
  · cases h
theorem rel_sto {K : PySem.W.Frag} {C : Cfg} {g g' : Gh} {H H' : Hp} {sl : List (Option D)} {S S' : Sto} {σ : L2.St} (r : Rel K C Γ g sl S σ H) (s : StoOk K C g' H' S') (hG : Same g.G g'.G) (hρ : ∀ (i : Nat) (a : Addr), g.ρ[i]? = some a → g'.ρ[i]? = some a)
    (k : ∀ p i, g.own p = some (.slot i) → g'.own p = some (.slot i) ∧ H' p = H p) : Rel K C Γ g' sl S' σ H' :=
  ⟨s, r.len, fun i d e q => let ⟨v, h1, h2⟩ := r.slF i d e q; ⟨v, h1, h2.mono hG hρ⟩, fun i d e q =>
    let ⟨p, h1, h2, h3⟩ := r.slO i d e q; ⟨p, h1, (k p i h2).1, h3.mono (k p i h2).2 hG hρ⟩, cau_mono hG hρ r.cau⟩
theorem csD0 {K : PySem.W.Frag} {E : Ends} {σ : L2.St} {sl : List (Option D)} {g g0 : Gh} {H H0 : Hp} {S : Sto} {m : Mx D} {k : D → Ms} {R : VK} (r : Rel K B.J.C Γ g sl S σ H) (st0 : Stp (cS B.J.lv) g0 H0 g H) (h : PSt K B Γ' E g0 H0 (bindS m k sl S)) (hX : leG B.ΓX Γ = true)
    (f : ∀ g1 H1 d S1 x, Stp (cE B.J.lv) g H g1 H1 → Rel K B.J.C Γ g1 sl S1 σ H1 → Rep K B.J.C g1.G g1.ρ d x → PSt K B Γ' E g0 H0 (k d sl S1) → R x H1) : tD K B.J Γ m σ H R := by
  refine tD_iff.mpr ⟨g, sl, S, r, ?_⟩
  unfold bindS at h
  cases e : m sl S with
  | ok d S' => rw [e] at h; exact fun g' H' v s r' b => f g' H' d S' v s r' b h
  | err x S' => rw [e] at h; exact (PSt.step st0 h).err hX
  | stuck => rw [e] at h; exact h
theorem ss_setF (c k : Nat) (hC : CfgOk X.K B.J.C) (ho : SD X B.J Γ o mo) (he : SD X B.J Γ e me) (hl : B.J.lv = true := by rfl) (hk : (B.J.C.fl c)[k]? = some f := by rfl) (hw : B.J.C.ow c k = false := by rfl) (hX : leG B.ΓX Γ = true := by rfl)
    (hs : swapsWith e (some (.Attribute o f pos')) pos.line X.env = pure false := by rfl) : SS X B Γ Γ (.Assign [.Attribute o f pos'] e pos) (mSetF c k mo me) :=
  PS.imp (ps_fld ho he hs) fun E σ H q => by
    obtain ⟨g, sl, S, rl, p⟩ := tSt_iff.mp q
    refine csD rl p hX fun g1 H1 d S1 y st1 r1 b1 p1 => ?_
    refine csD r1 p1 hX fun g2 H2 r S2 x st2 r2 b2 p2 => ?_
    cases ew : wrF c k d r S2 with
    | none => rw [ew] at p2; exact False.elim p2
    | some S' =>
      rw [ew] at p2
      obtain ⟨i, ob, rfl, hi, hc, rfl⟩ := wrF_of ew
      subst hc
      obtain ⟨a, dx, fs, hρ, ob'⟩ := r2.sto.ob i ob hi
      cases b2 with
      | ref hr =>
        rw [hρ] at hr; cases hr
        obtain ⟨hcl, hno⟩ := hC.at_ _ _ _ hk
        refine ⟨a, _, dx, fs, rfl, ob'.at_, hcl, hno, few_lt hC ob', ?_⟩
        have s' := sto_setF (g' := g2) hC r2.sto hi hρ ob' hk rfl rfl (fun _ _ z => z) r2.sto.fro (v := y) (d := d) ⟨y, rfl, by rw [hw, if_neg Bool.false_ne_true]; exact b1.step st2⟩
        refine p2 g2 _ σ (stp_upd ob'.own (by rw [hl]; rfl) (by rw [ob'.at_]; exact fun z => by cases z)) (rel_sto r2 s' (Same.refl _) (fun _ _ z => z) fun p j hp => ⟨hp, upd_ne (own_inj hp ob'.own fun z => by cases z)⟩)
/-- o.f = a new list, the object's own -/
theorem ss_ownF (c k : Nat) (hC : CfgOk X.K B.J.C) (ho : SD X B.J Γ o mo) (he : SN X B.J Γ e me) (hl : B.J.lv = true := by rfl) (hk : (B.J.C.fl c)[k]? = some f := by rfl) (hw : B.J.C.ow c k = true := by rfl) (hX : leG B.ΓX Γ = true := by rfl)
    (hs : swapsWith e (some (.Attribute o f pos')) pos.line X.env = pure false := by rfl) : SS X B Γ Γ (.Assign [.Attribute o f pos'] e pos) (mSetF c k mo me) :=
  PS.imp (ps_fld ho he hs) fun E σ H q => by
    obtain ⟨g, sl, S, rl, p⟩ := tSt_iff.mp q
    refine csN rl p hX fun g1 H1 d S1 y st1 r1 b1 n1 p1 => ?_
    obtain ⟨pa, rfl, f1, f2, f3⟩ := b1
    refine csD0 r1 st1.toS p1 hX fun g2 H2 r S2 x st2 r2 b2 p2 => ?_
    obtain ⟨oo, hoo⟩ := f3.there
    have k1 : H2 pa = some oo := st2.fr pa _ hoo fun w hw => by rw [f1] at hw; cases hw
    have k2 : g2.own pa = none := by
      cases q : g2.own pa with
      | none => rfl
      | some w =>
        rcases st2.nw _ _ q with z | z
        · rw [f1] at z; cases z
        · rw [hoo] at z; cases z
    have k3 : g2.G pa = none := by
      cases q : g2.G pa with
      | none => rfl
      | some w =>
        rcases st2.ng _ _ q with z | z | ⟨w', z, _⟩
        · rw [f2] at z; cases z
        · rw [hoo] at z; cases z
        · rw [f1] at z; cases z
    have k4 : Cell X.K B.J.C g2 H2 pa d := f3.mono (by rw [k1, hoo]) st2.gG st2.ro
    cases ew : wrF c k d r S2 with
    | none => rw [ew] at p2; exact False.elim p2
    | some S' =>
      rw [ew] at p2
      obtain ⟨i, ob, rfl, hi, hc, rfl⟩ := wrF_of ew
      subst hc
      obtain ⟨a, dx, fs, hρ, ob'⟩ := r2.sto.ob i ob hi
      cases b2 with
      | ref hr =>
        rw [hρ] at hr; cases hr
        obtain ⟨hcl, hno⟩ := hC.at_ _ _ _ hk
        refine ⟨a, _, dx, fs, rfl, ob'.at_, hcl, hno, few_lt hC ob', ?_⟩
        have nap : pa ≠ a := fun z => by rw [z, ob'.own] at k2; cases k2
        have hown : ∀ b w, g2.own b = some w → (g2.claim pa (.fld i k)).own b = some w := fun b w h => by
          show (if b = pa then _ else g2.own b) = _
          rw [if_neg (fun z => by rw [z, k2] at h; cases h)]; exact h
        have s2 := claim_sto (w := .fld i k) r2.sto k2 k3 (by rw [k1]; exact fun z => by cases z)
        have s' := sto_setF (g' := g2.claim pa (.fld i k)) hC r2.sto hi hρ ob' hk rfl rfl hown s2.fro (v := .ref pa) (d := d)
          ⟨_, rfl, by rw [hw, if_pos rfl]; exact ⟨pa, rfl, by show (if pa = pa then _ else _) = _; rw [if_pos rfl], k4.mono (upd_ne nap) (Same.refl _) fun _ _ z => z⟩⟩
        have st3 : Stp (cS B.J.lv) g H (g2.claim pa (.fld i k)) H2 := claim_stp (st1.trans st2).toS (n1 pa rfl) k2
        have st4 : Stp (cS B.J.lv) (g2.claim pa (.fld i k)) H2 (g2.claim pa (.fld i k)) (upd H2 a (.ins (B.J.C.ca ob.c) dx (putF f (.ref pa) fs))) := stp_upd (hown _ _ ob'.own) (by rw [hl]; rfl) (by rw [ob'.at_]; exact fun z => by cases z)
        exact p2 _ _ σ (st3.trans st4) (rel_sto r2 s' (Same.refl _) (fun _ _ z => z) fun p j hp => ⟨hown _ _ hp, upd_ne (own_inj hp ob'.own fun z => by cases z)⟩)
end
end Sm
set_option Elab.async false
set_option linter.all false
set_option maxRecDepth 100000
set_option maxHeartbeats 1000000
/-! Sim 9: an object's own list is changed; augmented assignments. -/
namespace Sm
open PySem PySem.Spec PyProof.Rows L2

theorem csDsN {K : PySem.W.Frag} {B : Js} {Γ Γ' : List Bool} {E : Ends} {σ : L2.St} {sl : List (Option D)} {g : Gh} {H : Hp} {S : Sto} {m : Mx (List D)} {k : List D → Ms} {R : List V → Hp → Prop} (r : Rel K B.J.C Γ g sl S σ H) (h : PSt K B Γ' E g H (bindS m k sl S)) (hX : leG B.ΓX Γ = true)
    (f : ∀ g1 H1 d S1 x, Stp (cE false) g H g1 H1 → Rel K B.J.C Γ g1 sl S1 σ H1 → Reps K B.J.C g1.G g1.ρ d x → PSt K B Γ' E g1 H1 (k d sl S1) → R x H1) : tDs K { B.J with lv := false } Γ m σ H R := by
  refine tDs_iff.mpr ⟨g, sl, S, r, ?_⟩
  unfold bindS at h
  cases e : m sl S with
  | ok d S' => rw [e] at h; exact fun g' H' v s r' b => f g' H' d S' v s r' b (PSt.step (Stp.toSA (Stp.toS (lv := false) s)) h)
  | err x S' => rw [e] at h; exact fun g' H' cls dx st rl e => h.err hX g' H' cls dx st.toA rl e
  | stuck => rw [e] at h; exact h

/-- what an attribute's own list holds is changed -/
theorem sto_updF {K : PySem.W.Frag} {C : Cfg} {g : Gh} {H : Hp} {S : Sto} {i k : Nat} {ob : Ob} {p : Addr} {o : HO} {d d0 : D} {n : Str} (hC : CfgOk K C) (s : StoOk K C g H S) (hi : S[i]? = some ob) (hk : (C.fl ob.c)[k]? = some n) (hw : C.ow ob.c k = true) (hd0 : ob.fs[k]? = some (some d0))
    (hp : g.own p = some (.fld i k)) (hlk : ∀ a dx fs, g.ρ[i]? = some a → ObOk K C g H i ob a dx fs → fs.lookup n = some (.ref p)) (hc : Cell K C g (upd H p o) p d) : StoOk K C g (upd H p o) (S.set i ⟨ob.c, ob.fs.set k (some d)⟩) := by
  refine ⟨sub_upd s hp, fun b w h => ⟨(s.fro b w h).1, ?_⟩, by rw [List.length_set]; exact s.rlen, fun j ob' hj => ?_⟩
  · by_cases z : b = p
    · rw [z, upd_same]; exact fun z => by cases z
    · rw [upd_ne z]; exact (s.fro b w h).2
  · by_cases z : i = j
    · subst z
      have hl : i < S.length := (List.getElem?_eq_some_iff.mp hi).1
      rw [List.getElem?_set_self hl] at hj
      cases hj
      obtain ⟨a, dx, fs, h1, o'⟩ := s.ob i ob hi
      have hkl : k < ob.fs.length := by rw [o'.len]; exact (List.getElem?_eq_some_iff.mp hk).1
      refine ⟨a, dx, fs, h1, by rw [upd_ne (own_inj o'.own hp fun q => by cases q)]; exact o'.at_, o'.own, by rw [List.length_set]; exact o'.len, fun j m od hm hod => ?_, o'.no, ?_⟩
      · by_cases z : k = j
        · subst z
          have hod : (ob.fs.set k (some d))[k]? = some od := hod
          rw [List.getElem?_set_self hkl] at hod
          cases hod
          have e : m = n := by
            have hm' : (C.fl ob.c)[k]? = some m := hm
            rw [hk] at hm'; cases hm'; rfl
          subst e
          exact ⟨.ref p, hlk a dx fs h1 o', by rw [hw, if_pos rfl]; exact ⟨p, rfl, hp, hc⟩⟩
        · have hod : (ob.fs.set k (some d))[j]? = some od := hod
          rw [List.getElem?_set_ne z] at hod
          have q := o'.fld j m od hm hod
          cases od with
          | none => exact q
          | some d' =>
            obtain ⟨v', q1, q2⟩ := q
            refine ⟨v', q1, ?_⟩
            by_cases hw' : C.ow ob.c j = true
            · rw [if_pos hw'] at q2 ⊢
              obtain ⟨p', hp', hop, hc'⟩ := q2
              exact ⟨p', hp', hop, hc'.mono (upd_ne (own_inj hop hp fun q => by cases q; exact z rfl)) (Same.refl _) fun _ _ z => z⟩
            · rw [if_neg hw'] at q2 ⊢
              exact q2
      · show fs.length ≤ cnt (ob.fs.set k (some d))
        rw [cnt_set_some hd0]; exact o'.few
    · rw [List.getElem?_set_ne z] at hj
      obtain ⟨b, bx, bs, h1, o'⟩ := s.ob j ob' hj
      refine ⟨b, bx, bs, h1, by rw [upd_ne (own_inj o'.own hp fun q => by cases q)]; exact o'.at_, o'.own, o'.len, fun l m od hm hod => ?_, o'.no, o'.few⟩
      have q := o'.fld l m od hm hod
      cases od with
      | none => exact q
      | some d' =>
        obtain ⟨v', q1, q2⟩ := q
        refine ⟨v', q1, ?_⟩
        by_cases hw' : C.ow ob'.c l = true
        · rw [if_pos hw'] at q2 ⊢
          obtain ⟨p', hp', hop, hc'⟩ := q2
          exact ⟨p', hp', hop, hc'.mono (upd_ne (own_inj hop hp fun q => by cases q; exact z rfl)) (Same.refl _) fun _ _ z => z⟩
        · rw [if_neg hw'] at q2 ⊢
          exact q2

/-- the k-th attribute of the object r, of class c -/
def getF (c k : Nat) (r : D) (S : Sto) : Option (Nat × Ob × D) := match r with
  | .ref i => match S[i]? with
    | some ob => if ob.c = c then match ob.fs[k]? with
      | some (some d) => some (i, ob, d)
      | _ => none else none
    | none => none
  | _ => none
theorem getF_of {c k : Nat} {r : D} {S : Sto} {i : Nat} {ob : Ob} {d : D} (h : getF c k r S = some (i, ob, d)) : r = .ref i ∧ S[i]? = some ob ∧ ob.c = c ∧ ob.fs[k]? = some (some d) := by
  unfold getF at h
  split at h
  · split at h
    · split at h
      · split at h
        · cases h
          refine ⟨rfl, by assumption, by assumption, by assumption⟩
        · cases h
      · cases h
    · cases h
  · cases h
/-- o.f.m(args), f an own list of o's -/
def mOwnF (f : D → List D → Option (D × D)) (c k : Nat) (mo : Mx D) (ma : Mx (List D)) (kk : D → Ms) : Ms := bindS mo fun r sl S => match getF c k r S with
  | some (_, _, d) => if isLst d = true then bindS ma (fun as sl S2 => match getF c k r S2 with
    | some (i, ob, d2) => match f d2 as with
      | some (z, d') => kk z sl (S2.set i ⟨ob.c, ob.fs.set k (some d')⟩)
      | none => .stuck
    | none => .stuck) sl S else .stuck
  | none => .stuck
section
variable {X : Cx} {B : Js} {Γ Γ' : List Bool} {o e call tg : Expr} {mo me : Mx D} {ms : Mx (List D)} {fn : Str} {pos pos' tpos : Pos} {r : V → List V → Hp → VK → Prop} {f : D → List D → Option (D × D)} {t : Tg} {gt : TG} {vs : List Nat}
theorem ownF_run {K : PySem.W.Frag} {E : Ends} {σ : L2.St} {H : Hp} {c k : Nat} {kk : D → Ms} {R : VK} {ta : TA} (hC : CfgOk K B.J.C) (hf : OwnOp K r f) (hl : B.J.lv = true) (hk : (B.J.C.fl c)[k]? = some fn) (hw : B.J.C.ow c k = true) (hX : leG B.ΓX Γ = true) (ha : ∀ σ H Q, tDs K { B.J with lv := false } Γ ms σ H Q → ta σ H Q)
    (q : tSt K B Γ Γ' (mOwnF f c k mo ms kk) E σ H)
    (h : ∀ g' H' d v sl' S', Rel K B.J.C Γ g' sl' S' σ H' → Rep K B.J.C g'.G g'.ρ d v → PSt K B Γ' E g' H' (kk d sl' S') → R v H') :
    tBM K "list" r (tFld K (tD K B.J Γ mo) fn) ta σ H R := by
  obtain ⟨g, sl, S, rl, p⟩ := tSt_iff.mp q
  refine csD rl p hX fun g1 H1 ro S1 x st1 r1 b1 p1 => ?_
  cases e0 : getF c k ro S1 with
  | none => rw [e0] at p1; exact False.elim p1
  | some w =>
    obtain ⟨i, ob, d⟩ := w
    rw [e0] at p1
    obtain ⟨rfl, hi, hc, hd⟩ := getF_of e0
    subst hc
    have p1 : PSt K B Γ' E g1 H1 (if isLst d = true then bindS ms (fun as sl S2 => match getF ob.c k (.ref i) S2 with
      | some (i, ob, d2) => match f d2 as with
        | some (z, d') => kk z sl (S2.set i ⟨ob.c, ob.fs.set k (some d')⟩)
        | none => .stuck
      | none => .stuck) sl S1 else .stuck) := p1
    by_cases hl' : isLst d = true
    · rw [if_pos hl'] at p1
      obtain ⟨a, dx, fs, hρ, o1⟩ := r1.sto.ob i ob hi
      cases b1 with
      | ref hr =>
        rw [hρ] at hr; cases hr
        obtain ⟨hcl, hno⟩ := hC.at_ _ _ _ hk
        obtain ⟨v, q1, q2⟩ := o1.fld k fn (some d) hk hd
        rw [hw, if_pos rfl] at q2
        obtain ⟨pa, rfl, hp, cl⟩ := q2
        have ty : tyV K "list" (.ref pa) H1 := by
          cases d <;> first | cases hl' | skip
          obtain ⟨us, e, _⟩ := cl
          exact Or.inl ⟨rfl, us, SqL.of e⟩
        refine ⟨a, _, dx, fs, .ref pa, rfl, o1.at_, hcl, hno, q1, ty, ha _ _ _ (csDsN r1 p1 hX fun g2 H2 as S2 ws st2 r2 b2 p2 => ?_)⟩
        cases e2 : getF ob.c k (.ref i) S2 with
        | none => rw [e2] at p2; exact False.elim p2
        | some w =>
          obtain ⟨i', ob2, d2⟩ := w
          rw [e2] at p2
          obtain ⟨z, hi2, hc2, hd2⟩ := getF_of e2
          cases z
          have p2 : PSt K B Γ' E g2 H2 (match f d2 as with | some (z, d') => kk z sl (S2.set i ⟨ob2.c, ob2.fs.set k (some d')⟩) | none => .stuck) := p2
          cases ef : f d2 as with
          | none => rw [ef] at p2; exact False.elim p2
          | some zd =>
            obtain ⟨z, d'⟩ := zd
            rw [ef] at p2
            obtain ⟨a2, dx2, fs2, hρ2, o2⟩ := r2.sto.ob i ob2 hi2
            have ea : a2 = a := by have := st2.ro i a hρ; rw [hρ2] at this; cases this; rfl
            subst ea
            have k1 : H2 a2 = some (.ins (B.J.C.ca ob.c) dx fs) := st2.fr a2 _ o1.at_ fun w hw' => by rw [o1.own] at hw'; cases hw'; rfl
            have efs : fs2 = fs := by have q := o2.at_; rw [hc2, k1] at q; cases q; rfl
            subst efs
            have hk2 : (B.J.C.fl ob2.c)[k]? = some fn := by rw [hc2]; exact hk
            have hw2 : B.J.C.ow ob2.c k = true := by rw [hc2]; exact hw
            obtain ⟨v2, q3, q4⟩ := o2.fld k fn (some d2) hk2 hd2
            rw [hw2, if_pos rfl] at q4
            obtain ⟨p2a, rfl, hp2, cl2⟩ := q4
            have ep : p2a = pa := by rw [q1] at q3; cases q3; rfl
            subst ep
            refine hf B.J.C g2 H2 p2a d2 z d' as ws R ef cl2 b2 fun v oo hv hcc => ?_
            have s' := sto_updF (d := d') hC r2.sto hi2 hk2 hw2 hd2 hp2 (fun a3 dx3 fs3 h3 o3 => by
              rw [hρ2] at h3; cases h3
              have q := o3.at_; rw [o2.at_] at q; cases q
              exact q3) hcc
            refine h g2 _ z v sl _ (rel_sto r2 s' (Same.refl _) (fun _ _ z => z) fun p' j hp' => ⟨hp', upd_ne (own_inj hp' hp2 fun z => by cases z)⟩) hv (PSt.step (stp_upd hp2 (by rw [hl]; rfl) (r2.sto.fro _ _ hp2).2) p2)
    · rw [if_neg hl'] at p1
      exact False.elim p1
theorem ss_fldDo (c k : Nat) (hC : CfgOk X.K B.J.C) (hc : PE X call (tBM X.K "list" r (tFld X.K (tD X.K B.J Γ mo) fn) (tDs X.K { B.J with lv := false } Γ ms))) (hf : OwnOp X.K r f) (hl : B.J.lv = true := by rfl) (hk : (B.J.C.fl c)[k]? = some fn := by rfl) (hw : B.J.C.ow c k = true := by rfl) (hX : leG B.ΓX Γ = true := by rfl)
    (hs : swapsWith call none pos.line X.env = pure false := by rfl) : SS X B Γ Γ (.Expr call pos) (mOwnF f c k mo ms fun _ => mSkip) :=
  PS.imp (ps_expr hc hs) fun E σ H q => ownF_run (K := X.K) hC hf hl hk hw hX (fun _ _ _ z => z) q fun g' H' d v sl' S' rl hv p => p g' H' σ Stp.refl rl
theorem ss_fldDo0 (c k : Nat) (hC : CfgOk X.K B.J.C) (hc : PE X call (tBM0 X.K "list" r (tFld X.K (tD X.K B.J Γ mo) fn))) (hf : OwnOp X.K r f) (hl : B.J.lv = true := by rfl) (hk : (B.J.C.fl c)[k]? = some fn := by rfl) (hw : B.J.C.ow c k = true := by rfl) (hX : leG B.ΓX Γ = true := by rfl)
    (hs : swapsWith call none pos.line X.env = pure false := by rfl) : SS X B Γ Γ (.Expr call pos) (mOwnF f c k mo mNil fun _ => mSkip) :=
  PS.imp (ps_expr hc hs) fun E σ H q =>
    (ownF_run (K := X.K) (R := fun _ H1 => E.nx σ H1) hC hf hl hk hw hX nil_run q fun g' H' d v sl' S' rl hv p => p g' H' σ Stp.refl rl : tBM X.K "list" r (tFld X.K (tD X.K B.J Γ mo) fn) tNil σ H fun _ H1 => E.nx σ H1)
theorem ss_fldGet0 (c k : Nat) (hC : CfgOk X.K B.J.C) (hc : PE X call (tBM0 X.K "list" r (tFld X.K (tD X.K B.J Γ mo) fn))) (hf : OwnOp X.K r f) (hg : STg X B.J.C Γ Γ' vs tg t gt) (hl : B.J.lv = true := by rfl) (hk : (B.J.C.fl c)[k]? = some fn := by rfl) (hw : B.J.C.ow c k = true := by rfl) (hX : leG B.ΓX Γ = true := by rfl)
    (hs : swapsWithSole [tg] call pos.line X.env = pure false := by rfl) (hsw : swappedStores [tg] call X.env = pure none := by rfl) (h1 : (assignEach [tg] X.env).map (·.2) = [assign tg X.env] := by rfl) :
    SS X B Γ Γ' (.Assign [tg] call pos) (mOwnF f c k mo mNil fun d sl S => match t d sl with | some sl' => .next sl' S | none => .stuck) :=
  PS.imp (ps_asg hc hg.1 hs hsw h1) fun E σ H q =>
    (ownF_run (K := X.K) (R := fun x H1 => gt x σ H1 E.nx) hC hf hl hk hw hX nil_run q fun g' H' d v sl' S' rl hv p => by
      cases et : t d sl' with
      | none => rw [et] at p; exact False.elim p
      | some sl2 =>
        rw [et] at p
        exact hg.2 g' sl' sl2 S' σ H' d v _ rl hv et fun σ' _ r' => p g' H' σ' Stp.refl r' : tBM X.K "list" r (tFld X.K (tD X.K B.J Γ mo) fn) tNil σ H fun x H1 => gt x σ H1 E.nx)

/-! ### augmented assignments -/
def mAug (f : D → D → Option D) (i : Nat) (me : Mx D) : Ms := fun sl S => match sl[i]? with
  | some (some d) => bindS me (fun e sl S => match f d e with
    | some z => .next (sl.set i (some z)) S
    | none => .stuck) sl S
  | _ => .stuck
theorem ss_aug {x : Str} {op : Operator} {r2 : R2} {f2 : D → D → Option D} (i : Nat) (hN : X.N.Nodup) (ho : OpR X (inplaceOp op) r2) (hf : Op2 X.K r2 f2) (he : SD X B.J Γ e me) (hΓ : Γ.getD i false = false := by rfl) (hX : leG B.ΓX Γ = true := by rfl) (hi : X.N[i]? = some x := by rfl) (hx : Loc X.env.scope x := by first | exact Or.inl rfl | exact Or.inr rfl)
    (hfn : X.fn x = true ∨ X.env.scope.names.lookup x = some .local := by first | exact .inl rfl | exact .inr rfl | assumption) : SS X B Γ Γ (.AugAssign (.Name x pos') op e pos) (mAug f2 i me) :=
  PS.imp (ps_aug hN hi hx he (fun pins s σ H x y v u Q I rx ry q => ho pins s σ H x y v u Q I rx ry q) hfn) fun E σ H q => by
    obtain ⟨g, sl, S, rl, p⟩ := tSt_iff.mp q
    unfold mAug at p
    cases e0 : sl[i]? with
    | none => rw [e0] at p; exact False.elim p
    | some od =>
      cases od with
      | none => rw [e0] at p; exact False.elim p
      | some d =>
        rw [e0] at p
        obtain ⟨v, h1, h2⟩ := rl.slF i d e0 hΓ
        refine ⟨v, h1, csD (B := B) (Γ' := Γ) (E := E) rl p hX fun g1 H1 de S1 y st1 r1 b1 p1 => ?_⟩
        cases ef : f2 d de with
        | none => rw [ef] at p1; exact False.elim p1
        | some z =>
          rw [ef] at p1
          exact hf B.J Γ σ sl g1 H1 S1 _ d de z v y ef r1 (.inl (h2.step st1)) (.inl b1) fun g2 H2 w st2 r2' rw' => p1 g2 H2 _ st2.toS (rel_set r2' rw' hΓ)
/-- o.f op= e: ints -/
def mAugF (f : Int → Int → Int) (c k : Nat) (mo me : Mx D) : Ms := bindS mo fun r sl S => match getF c k r S with
  | some (_, _, .int i) => bindS me (fun e sl S2 => match e with
    | .int j => match wrF c k (.int (f i j)) r S2 with
      | some S' => .next sl S'
      | none => .stuck
    | _ => .stuck) sl S
  | _ => .stuck
theorem ss_augF {op : Operator} {rd : V → V → Hp → VK → Prop} {h : Int → Int → Int} (c k : Nat) (hC : CfgOk X.K B.J.C) (hop : InOp X op rd) (hrd : ∀ i j H (Q : VK), Q (.int (h i j)) H → rd (.int i) (.int j) H Q) (ho : SD X B.J Γ o mo) (he : SD X B.J Γ e me)
    (hl : B.J.lv = true := by rfl) (hk : (B.J.C.fl c)[k]? = some fn := by rfl) (hw : B.J.C.ow c k = false := by rfl) (hX : leG B.ΓX Γ = true := by rfl) : SS X B Γ Γ (.AugAssign (.Attribute o fn tpos) op e pos) (mAugF h c k mo me) :=
  PS.imp (ps_fldaug ho he hop) fun E σ H q => by
    obtain ⟨g, sl, S, rl, p⟩ := tSt_iff.mp q
    refine csD rl p hX fun g1 H1 ro S1 x st1 r1 b1 p1 => ?_
    cases e0 : getF c k ro S1 with
    | none => rw [e0] at p1; exact False.elim p1
    | some w =>
      obtain ⟨i, ob, d⟩ := w
      rw [e0] at p1
      obtain ⟨rfl, hi, hc, hd⟩ := getF_of e0
      subst hc
      cases d <;> first | exact False.elim p1 | skip
      rename_i z
      obtain ⟨a, dx, fs, hρ, o1⟩ := r1.sto.ob i ob hi
      cases b1 with
      | ref hr =>
        rw [hρ] at hr; cases hr
        obtain ⟨hcl, hno⟩ := hC.at_ _ _ _ hk
        obtain ⟨v, q1, q2⟩ := o1.fld k fn _ hk hd
        rw [hw, if_neg Bool.false_ne_true] at q2
        cases q2
        refine ⟨a, _, dx, fs, .int z, rfl, o1.at_, hcl, hno, q1, csD (B := B) (Γ' := Γ) (E := E) r1 p1 hX fun g2 H2 de S2 y st2 r2 b2 p2 => ?_⟩
        cases de <;> first | exact False.elim p2 | skip
        rename_i j
        cases b2
        refine hrd z j H2 _ ?_
        have p2 : PSt X.K B Γ E g2 H2 (match wrF ob.c k (.int (h z j)) (.ref i) S2 with | some S' => .next sl S' | none => .stuck) := p2
        cases ew : wrF ob.c k (.int (h z j)) (.ref i) S2 with
        | none => rw [ew] at p2; exact False.elim p2
        | some S' =>
          rw [ew] at p2
          obtain ⟨i', ob2, z', hi2, hc2, rfl⟩ := wrF_of ew
          cases z'
          obtain ⟨a2, dx2, fs2, hρ2, o2⟩ := r2.sto.ob i ob2 hi2
          have ea : a2 = a := by have := st2.ro i a hρ; rw [hρ2] at this; cases this; rfl
          subst ea
          have hk2 : (B.J.C.fl ob2.c)[k]? = some fn := by rw [hc2]; exact hk
          have hw2 : B.J.C.ow ob2.c k = false := by rw [hc2]; exact hw
          have s' := sto_setF (g' := g2) (d := .int (h z j)) (v := .int (h z j)) hC r2.sto hi2 hρ2 o2 hk2 rfl rfl (fun _ _ z => z) r2.sto.fro ⟨_, rfl, by rw [hw2, if_neg Bool.false_ne_true]; exact .int _⟩
          have hat := o2.at_
          rw [hc2] at hat s'
          refine ⟨dx2, fs2, hat, few_lt hC o2, ?_⟩
          rw [hc2] at p2
          exact p2 g2 _ σ (stp_upd o2.own (by rw [hl]; rfl) (by rw [hat]; exact fun z => by cases z)) (rel_sto r2 s' (Same.refl _) (fun _ _ z => z) fun p j hp => ⟨hp, upd_ne (own_inj hp o2.own fun z => by cases z)⟩)
end
end Sm
set_option Elab.async false
set_option linter.all false
set_option maxRecDepth 100000
set_option maxHeartbeats 2000000
/-! Sim 10: try with several clauses, each with or without a name. -/
namespace Sm
open PySem PySem.Spec PyProof.Rows L2

/-- the ends of a suite whose clause names slot i -/
def endsAs (D : Ends) (i : Nat) : Ends := ⟨fun σ' H' => D.nx (σ'.set i none) H', D.rt, fun σ' H' => D.bk (σ'.set i none) H', fun σ' H' => D.ct (σ'.set i none) H'⟩
abbrev Clause := Value × Option Nat × (Addr → Value → Option Addr → TS)
def wMix (K : PySem.W.Frag) (Wout : WX) (D : Ends) : List Clause → WX
  | [] => Wout
  | (c, oi, ts) :: r => fun cls d σ H => ∃ b, PySem.W.exmOne K cls c = some b ∧
      (b = true → ∀ a, H a = none → match oi with
        | none => ts a cls d D σ H
        | some i => ts a cls d (endsAs D i) (σ.set i (some (.ref a))) H) ∧ (b = false → wMix K Wout D r cls d σ H)
inductive HMix (X : Cx) : List ExceptHandler → List Clause → Prop
  | nil : HMix X [] []
  | one {x : Str} {c : Value} {ts : Addr → Value → Option Addr → TS} {b₀ : Stmt} {su : List Stmt} {np p' : Pos} {hds : List ExceptHandler} {l : List Clause} (hc : Names X x c)
      (hsu : ∀ (a : Addr) (oe : Obj) (cls : Value) (d : Option Addr) (pn : List (Addr × Obj)), L2N.Zn cls d oe → (∃ vs, oe.data = .fields vs) → PSs (X.suite a ((a, oe) :: pn)) (b₀ :: su) (ts a cls d)) (r : HMix X hds l) :
      HMix X (.ExceptHandler (some (.Name x np)) none (b₀ :: su) p' :: hds) ((c, none, ts) :: l)
  | as {x n : Str} {i : Nat} {c : Value} {ts : Addr → Value → Option Addr → TS} {b₀ : Stmt} {su : List Stmt} {np p' : Pos} {hds : List ExceptHandler} {l : List Clause} (hc : Names X x c) (hN : X.N.Nodup) (hi : X.N[i]? = some n) (hln : X.env.kindOf n = some .local)
      (hsu : ∀ (a : Addr) (oe : Obj) (cls : Value) (d : Option Addr) (pn : List (Addr × Obj)), L2N.Zn cls d oe → (∃ vs, oe.data = .fields vs) → PSs (X.suite a ((a, oe) :: pn)) (b₀ :: su) (ts a cls d)) (r : HMix X hds l) :
      HMix X (.ExceptHandler (some (.Name x np)) (some n) (b₀ :: su) p' :: hds) ((c, some i, ts) :: l)
section
variable {X : Cx} {pins : List (Addr × Obj)} {D : Ends} {Wout : WX}
/-- the flow behind a body or a suite whose invariant is of X again -/
theorem sp_map {X' : Cx} {pn : List (Addr × Obj)} {f : Flow} {s6 : Shared} (k : ∀ σ6 H6, Inv X' pn σ6 H6 s6 → Inv X pins σ6 H6 s6) (h : L2.SP X' pn D f s6) : L2.SP X pins D f s6 := by
  cases f with
  | ret u => let ⟨v6, σ6, H6, S6, r6, q6⟩ := h; exact ⟨v6, σ6, H6, k _ _ S6, r6, q6⟩
  | next => let ⟨σ6, H6, S6, q6⟩ := h; exact ⟨σ6, H6, k _ _ S6, q6⟩
  | brk => let ⟨σ6, H6, S6, q6⟩ := h; exact ⟨σ6, H6, k _ _ S6, q6⟩
  | cont => let ⟨σ6, H6, S6, q6⟩ := h; exact ⟨σ6, H6, k _ _ S6, q6⟩
theorem mix_go (ok : X.Ok) (hs : X.stack = X.env :: X.outer) (hf : X.env.frame = some X.env.locals) (tk : L2N.Takes X Wout) {a : Addr} {B : Heap} {sI s' : Shared} {σ' : L2.St} {H' : Hp} {cls : Value} {d : Option Addr} {h3 : Heap}
    (J : Inv X pins σ' H' sI) (nb : ∀ b o, sI.heap.get? b = some o → b ∉ frs X.stack → B.get? b = some o) (up : sI.heap.UpToSlots s'.heap) (up3 : s'.heap.UpToSlots h3) (na : H' a = none) (os : s'.os = sI.os) (ag : AllBare s'.gens)
    (fl3 : HandSPX.FlyingZ B (X.env :: X.outer) a (L2N.Zn cls d) h3) : ∀ {hds : List ExceptHandler} {l : List Clause}, HMix X hds l → wMix X.K Wout D l cls d σ' H' →
      wpAny (model X.prog X.w) X.A (handleBy (.ref a) X.env hds) (L2.SP X pins D) X.xe { s' with heap := h3 } := by
  have J3 : Inv X pins σ' H' { s' with heap := h3 } := J.landed nb fl3.1 (up.trans up3) os ag
  obtain ⟨oe3, vs3, he3, hz3, hd3⟩ := fl3.there
  have nfr : a ∉ frs (X.env :: X.outer) := fun hm => by
    obtain ⟨_, o', e', hnf⟩ := fl3.2.2.1.mem hm
    rw [he3] at e'; cases e'; exact hnf _ hd3
  have nL : a ≠ X.env.locals := fun z => nfr (List.mem_filterMap.mpr ⟨X.env, List.mem_cons_self, by rw [hf, z]⟩)
  have nF : a ∉ X.fs := fun hm => by
    obtain ⟨e, he, q⟩ := List.mem_filterMap.mp hm
    exact nfr (List.mem_filterMap.mpr ⟨e, .tail _ he, q⟩)
  have S3 := J3.suite he3 hd3 na nL nF
  have LT : PySem.W.Looks (model X.prog X.w) h3 (typeOf (.ref a)) cls := fun A Q E s k q => wpAny_typeOf_ref (k _ _ he3) (by rw [hz3.1]; exact q)
  have test : ∀ {x : Str} {np : Pos} {c : Value} {Q : Value → Shared → Prop} {E : Value → Shared → Prop}, Names X x c → Q c { s' with heap := h3 } →
      wpAny (model X.prog X.w) (X.A.mark (some (.ref a))) (eval (.Name x np) X.env) Q E { s' with heap := h3 } := fun {x np c Q E} hc q => by
    rcases hc with ⟨hg, hdbg, hm | ⟨hm, hv, hnn⟩⟩
    · exact ld_glob (X := X.suite a ((a, oe3) :: (X.pn ++ pins))) S3 hg hm q hdbg
    · exact ld_blt (X := X.suite a ((a, oe3) :: (X.pn ++ pins))) S3 hg hm hv q hnn hdbg
  intro hds l hk
  induction hk with
  | nil =>
    intro w
    obtain ⟨_, _, _, oe, vs, T, oT, ts', he, hz, hd, h1, hr⟩ := id fl3
    refine wpAny_handleBy_nil ?_
    unfold PySem.passOn
    refine wpAny_bind (wpAny_field he hd h1 ?_)
    rw [if_neg (by simp : ¬ ((Value.ref T == Value.none) = true))]
    have fin : wpAny (model X.prog X.w) X.A (setFlight (.ref a) X.env.frame) (fun _ s4 => wpAny (model X.prog X.w) X.A (throw (.ref a) : Sem Flow) (L2.SP X pins D) X.xe s4) X.xe { s' with heap := h3 } := by
      rw [hf]
      exact HandSPX.setFlight_upZ fl3 fun h4 hh4 up4 => wpAny_throw (tk _ _ ⟨a, B, sI, pins, σ', H', cls, d, rfl, J, nb, (up.trans up3).trans up4, .inr (.inr (by rw [hs]; exact hh4)), na, os, ag, w⟩)
    first | exact wpAny_bind (wpAny_pure (wpAny_bind fin)) | exact wpAny_bind fin
  | @one x c ts b₀ su np p' hds2 l2 hc hsu r ih =>
    rintro ⟨b, hb1, hyes, hno⟩
    have LM := PySem.W.exm_one (M := model X.prog X.w) J3.kIn LT hb1
    refine wpAny_handleBy_cons (codeAny_handlers_test (test hc (LM.here ?_))) (by intro q; cases q)
    cases b with
    | false => exact (ih (hno rfl) : wpAny _ X.A (handleBy (.ref a) X.env hds2) _ _ _)
    | true =>
      refine codeAny_handlers_suite (HandSPX.lands_againZ fl3 fun h4 fl4 up4 => ?_)
      have J4 : Inv X pins σ' H' { s' with heap := h4 } := J.landed nb fl4.1 ((up.trans up3).trans up4) os ag
      obtain ⟨oe4, vs4, he4, hz4, hd4⟩ := fl4.there
      exact wpAny_mono ((hsu a oe4 cls d (X.pn ++ pins) hz4 ⟨_, hd4⟩).run [] _ _ H' _ (J4.suite he4 hd4 na nL nF) (hyes rfl a na)) (fun f s6 hsp => sp_map (fun _ _ S6 => S6.unsuite ok) hsp) fun _ _ z => False.elim z
  | @as x n i c ts b₀ su np p' hds2 l2 hc hN hi hln hsu r ih =>
    rintro ⟨b, hb1, hyes, hno⟩
    have LM := PySem.W.exm_one (M := model X.prog X.w) J3.kIn LT hb1
    refine wpAny_handleBy_cons (codeAny_handlers_test (test hc (LM.here ?_))) (by intro q; cases q)
    cases b with
    | false => exact (ih (hno rfl) : wpAny _ X.A (handleBy (.ref a) X.env hds2) _ _ _)
    | true =>
      refine codeAny_handlers_suite_as (HandSPX.lands_againZ fl3 fun h4 fl4 up4 => ?_)
      have J4 : Inv X pins σ' H' { s' with heap := h4 } := J.landed nb fl4.1 ((up.trans up3).trans up4) os ag
      obtain ⟨oe4, vs4, he4, hz4, hd4⟩ := fl4.there
      refine store_ok (X := X.suite a ((a, oe4) :: (X.pn ++ pins))) (v := .ref a) (J4.suite he4 hd4 na nL nF) hN hi (.inl hln) rfl (fun s5 S5 => ?_) (.inr hln)
      refine wpAny_mono ((hsu a oe4 cls d (X.pn ++ pins) hz4 ⟨_, hd4⟩).run [] s5 _ H' _ S5 (hyes rfl a na)) (fun f s6 hsp => ?_) fun _ _ z => False.elim z
      have hgone : ∀ {σ6 : L2.St} {H6 : Hp} {Q : Shared → Prop}, Inv (X.suite a ((a, oe4) :: (X.pn ++ pins))) [] σ6 H6 s6 → (∀ s7, Inv X pins (σ6.set i none) H6 s7 → Q s7) →
          wpAny (model X.prog X.w) X.A (do bindName X.env n .none; unbindBehindTheSuite X.env n p') (fun _ s7 => Q s7) X.xe s6 := fun {σ6 H6 Q} S6 hq => gone_ok (S6.unsuite ok) hN hi hln hq
      cases f with
      | ret u => let ⟨v6, σ6, H6, S6, r6, q6⟩ := hsp; exact hgone S6 fun s7 J7 => ⟨v6, _, H6, J7, r6, q6⟩
      | next => let ⟨σ6, H6, S6, q6⟩ := hsp; exact hgone S6 fun s7 J7 => ⟨_, H6, J7, q6⟩
      | brk => let ⟨σ6, H6, S6, q6⟩ := hsp; exact hgone S6 fun s7 J7 => ⟨_, H6, J7, q6⟩
      | cont => let ⟨σ6, H6, S6, q6⟩ := hsp; exact hgone S6 fun s7 J7 => ⟨_, H6, J7, q6⟩
theorem ps_try_mix {body : List Stmt} {h₀ : ExceptHandler} {hds : List ExceptHandler} {l : List Clause} {pos : Pos} {tb : WX → TS} (hs : X.stack = X.env :: X.outer) (hf : X.env.frame = some X.env.locals) (tk : L2N.Takes X Wout)
    (hb : ∀ (W : WX) (pn : List (Addr × Obj)) (xe : Value → Shared → Prop), L2N.Takes (X.tr pn xe) W → PassesOwn (model X.prog X.w) X.A X.env xe → PSs (X.tr pn xe) body (tb W)) (hh : HMix X (h₀ :: hds) l) :
    PS X (.Try body (h₀ :: hds) [] [] pos) (fun D σ H => tb (wMix X.K Wout D l) D σ H) := by
  refine ⟨fun pins s σ H D I h => wpAny_Try_except ?_⟩
  have ok := I.ok
  refine wpAny_mono ((hb (wMix X.K Wout D l) (X.pn ++ pins) (fun e s₁ => wpAny (model X.prog X.w) X.A (noteFrame e X.env) (fun _ s₂ => wpAny (model X.prog X.w) X.A (setFlight e none)
    (fun _ s₃ => wpAny (model X.prog X.w) X.A (handleBy e X.env (h₀ :: hds)) (L2.SP X pins D) X.xe s₃) X.xe s₂) X.xe s₁) (fun u s' xx => ?_) PassesOwn.looking).run [] s σ H D (I.toTry _) h) (fun f s1 hsp => ?_) fun e s1 he => he
  · obtain ⟨a, B, sI, pins', σ', H', cls, d, rfl, J', nb, up, sky, na, os, ag, w⟩ := xx
    refine L2N.Sky.land (L := X.env.locals) L2N.Zn.steady (by rw [ok.frames, hs]) hf (by rw [← hs]; exact sky) fun h3 fl3 up3 => ?_
    exact mix_go ok hs hf tk (J'.ofTry ok) nb up up3 na os ag fl3 hh w
  · have hsp' : L2.SP X pins D f s1 := sp_map (fun _ _ S6 => S6.ofTry ok) hsp
    cases f with
    | next => exact wpAny_execs_nil hsp'
    | ret u => exact hsp'
    | brk => exact hsp'
    | cont => exact hsp'
end
end Sm
set_option Elab.async false
set_option linter.all false
set_option maxRecDepth 100000
set_option maxHeartbeats 2000000
/-! Sim 11: an own error whose __init__ calls super().__init__ with a text and stores one or two attributes. -/
namespace PySem
namespace EsX
open PySem.W PySem.Calls PyProof.Rows PySem.HandSPX

/-- where the parts of such an __init__ stand -/
structure Ps where
  a : Pos
  b : Pos
  c : Pos
  d : Pos
  e : Pos
  f : Pos
/-- self.f = f -/
def asg (f : Str) (p : Ps) : Stmt := .Assign [.Attribute (.Name "self" p.a) f p.b] (.Name f p.c) p.d
def sup (txt : Str) (j : Nat) (p q : Ps) : Stmt := .Expr (.Call (.Attribute (.Call (.Name "super" p.a) [] [] p.b) "__init__" p.c) [.Constant (.str txt) j p.d] [] p.e) p.f
def arg0 (fs : List (Str × Pos)) (p : Pos) : Arguments := { posonlyargs := [], args := { arg := "self", annotation := none, pos := p } :: fs.map fun x => { arg := x.1, annotation := none, pos := x.2 }, vararg := none, kwonlyargs := [], kw_defaults := [], kwarg := none, defaults := [] }
def scp (fs : List Str) : Scope := { kind := .function, names := (PySem.Str.ofString "self", .local) :: (fs.map fun f => (f, .local)) ++ [(PySem.Str.ofString "__class__", .free), (PySem.Str.ofString "super", .globalImplicit)], isGenerator := false, isCoroutine := false, more := [] }

section
variable {prog : Program} {w : World} {A : Around} {E : Value → Shared → Prop} {h : Heap} {g : Array GenState} {d : Drawn} {t : Nat} {os : OsState}
variable {nm q : Str} {C N : Addr} {bs bm : List Value} {hdct : Bool} {sn : List Str} {sub : List Value} {ab : Bool} {col : Option Bool} {dd : Option Addr} {k0 k1 k2 k3 k5 : Option Value}
/-- the bound ValueError.__init__ is called -/
theorem call_mw {u e t0 : Addr} {rest : List Value} {Q : Value → Shared → Prop} (hC : h.get? C = some (excClassObj nm q C N bs bm hdct sn sub ab col dd k0 k1 k2 k3 k5 "ValueError.__new__")) (he : h.get? e = some (excO C t0))
    (hu : h.get? u = some (kxs_mw "ValueError.__init__" e)) (hz : rest.length ≤ sizeLine)
    (hq : ∀ h' t1, (∀ b o, b ≠ e → h.get? b = some o → h'.get? b = some o) → h'.get? e = some (excO C t1) → Q .none ⟨h', g, d, t, os⟩) : wpAny (model prog w) A (call (.ref u) rest) Q E ⟨h, g, d, t, os⟩ := by
  refine wpAny_call (codeAny_of_tree (show wpAny _ A.in1 (callAny (.ref u) ⟨rest, []⟩) _ _ _ from ?_))
  simp only [callAny]
  refine wpAny_bind (wpAny_load hu ?_)
  simp only [kxs_mw, show (Value.type "method-wrapper" == Value.type "method" || Value.type "method-wrapper" == Value.type "builtin_function_or_method" || Value.type "method-wrapper" == Value.type "method-wrapper") = true by decide, if_true]
  refine KFB.if_so (by decide) (wpAny_bind (check_bound_init F.excBase_ValueError.toExcCallFacts hC he rfl (wpAny_bind (wpAny_pure (wpAny_pure ?_)))))
  refine ⟨plainId_quiet F.excBase_ValueError.init.plain _, codeAny_builtin F.excBase_ValueError.initEntry ?_⟩
  exact exc_init_tree (cls := .ref C) (t0 := t0) (dv := none) (c2 := .none) (c3 := .none) (b4 := .bool false) he hz fun h' k e' _ => hq h' _ k e'
end

/-- the super call, as the model reads it in one line of the text -/
def SupEv (txt : Str) (j : Nat) (pa : Ps) (env : Env) : Prop := ∃ pl : Sem Bool, eval (.Call (.Attribute (.Call (.Name "super" pa.a) [] [] pa.b) "__init__" pa.c) [.Constant (.str txt) j pa.d] [] pa.e) env = (do
  let ov ← attributeBase (.Call (.Name "super" pa.a) [] [] pa.b) "__init__" env (eval (.Call (.Name "super" pa.a) [] [] pa.b) env)
  standAt pa.c.atName
  let (f, first) ← holding [ov] (getMethod ov "__init__" pl)
  callWith pa.e f first (backTo pa.e (starEach [.Constant (.str txt) j pa.d] env)) [])
/-- what the written part says of the error's class at C, its attributes fs -/
structure EsT (P : Program) (K : Frag) (mg : Str → Option Value) (C : Addr) (fs : List Str) : Prop where
  cls : ∃ nm q N bs bm sn sub ab col dd k0 k1 k2 k3 k5, K.lookup C = some (excClassObj nm q C N bs bm true sn sub ab col dd k0 k1 k2 k3 k5 "ValueError.__new__") ∧ refsVE bm = true ∧ alongIn K "__init__" bm = some (some (.builtin "ValueError.__init__"))
  sa : findIn K (.ref C) "__setattr__" = some (some (.builtin "object.__setattr__"))
  mVE : mroIn K C (.type "ValueError") = some true
  mC : mroIn K C (.ref C) = some true
  noN : ∀ f ∈ fs, findIn K (.ref C) f = some none
  op : nsIn K cStatics "thirdparty.any" = some none
  sup : mg "super" = none
  file : (P.main.scope.names.lookup ("super" : Str)).isSome = false
  fn : ∃ (fI cc cda : Addr) (oc ccl cl doc pm ct : Value) (od an cdd cld : Option Addr) (osl ccs csl : Array (Option Value)) (qual : Str) (txt : Str) (j : Nat) (ps : List Pos) (p0 : Pos) (pa pb : Ps) (pq : List Ps) (vs : Array Value) (fl : Str) (tf : Tok),
    findIn K (.ref C) "__init__" = some (some (.ref fI)) ∧ typeIn K (.ref fI) = some (.type "function") ∧ ps.length = fs.length ∧ pq.length = fs.length ∧
    K.lookup fI = some ⟨oc, od, .func (ksFn "__init__" qual (arg0 (fs.zip ps) p0) (EsX.sup txt j pa pb :: (fs.zip pq).map fun x => asg x.1 x.2) (scp fs) .none .none doc pm an (.ref cda) ct cc), osl⟩ ∧ codeIn K (.ref cda) qual = true ∧
    K.lookup cda = some ⟨ccl, cdd, .fields vs, ccs⟩ ∧ vs[2]? = some (.str fl tf) ∧ ((P.main.file : Str) == fl) = true ∧ K.lookup cc = some ⟨cl, cld, .cell (some (.ref C)), csl⟩ ∧ ∀ L, SupEv txt j pa (ksEnv qual (scp fs) L fI (.ref cda) cc)

section
variable {prog : Program} {w : World} {A : Around} {R : Result → Shared → Prop} {s : Shared} {K : Frag} {mg : Str → Option Value} {C : Addr} {base : Heap}
theorem ns_kept {h h' : Heap} {L x : Addr} {m : Str → Option Value} (hn : h.Ns L m) (k : ∀ b o, b ≠ x → h.get? b = some o → h'.get? b = some o) (ne : L ≠ x) : h'.Ns L m := by
  obtain ⟨oL, es, ep, hL, r⟩ := hn
  exact ⟨oL, es, ep, k _ _ ne hL, r⟩
/-- super().__init__(text) runs -/
theorem run_sup {fI cc cda x t0 L : Addr} {oc ccl cl doc pm ct : Value} {od an cdd cld : Option Addr} {osl ccs csl : Array (Option Value)} {qual txt : Str} {j : Nat} {pa pb : Ps} {vs : Array Value} {fl : Str} {tf : Tok} {fs : List Str} {ps : List Pos} {p0 : Pos} {body body2 : List Stmt}
    {m : Str → Option Value} {E : Value → Shared → Prop} {Q : Flow → Shared → Prop} (T : EsT prog K mg C fs) (M : L2.Mod K mg base) (hb : ∀ b o, base.get? b = some o → s.heap.get? b = some o)
    (hf : K.lookup fI = some ⟨oc, od, .func (ksFn "__init__" qual (arg0 (fs.zip ps) p0) body (scp fs) .none .none doc pm an (.ref cda) ct cc), osl⟩) (hcode : K.lookup cda = some ⟨ccl, cdd, .fields vs, ccs⟩) (hvs : vs[2]? = some (.str fl tf))
    (hfile : ((prog.main.file : Str) == fl) = true) (hcell : K.lookup cc = some ⟨cl, cld, .cell (some (.ref C)), csl⟩) (hn : s.heap.Ns L m) (hself : m "self" = some (.ref x)) (hx : s.heap.get? x = some (excO C t0)) (hnx : x ≠ L)
    (hev : SupEv txt j pa (ksEnv qual (scp fs) L fI (.ref cda) cc)) (hks : (scp fs).names.lookup ("super" : Str) = some .globalImplicit) (hkc : (scp fs).names.lookup ("__class__" : Str) = some .free)
    (hq : ∀ h' t1 tk, (∀ b o, b ≠ x → s.heap.get? b = some o → h'.get? b = some o) → h'.get? x = some (excO C t1) → Q .next { s with heap := h', toks := tk }) :
    wpAt (model prog w) A (.func body2 (ksEnv qual (scp fs) L fI (.ref cda) cc)) (exec (EsX.sup txt j pa pb) (ksEnv qual (scp fs) L fI (.ref cda) cc)) Q E s := by
  have X : K.In s.heap := M.kin.keeps hb
  obtain ⟨nm, q, N, bs, bm, sn, sub, ab, col, dd, k0, k1, k2, k3, k5, hC, hbm, hal⟩ := T.cls
  obtain ⟨mb, hmb, hbl⟩ := M.blt
  obtain ⟨hh, g, d, t, os⟩ := s
  have hcl : clsIn K C = some { name := nm, bases := bs, mro := .ref C :: bm, ns := N, qualname := q, hasDict := true, slotNames := sn, subclasses := sub, abstract := ab, collection := col, hasDel := false } := by unfold clsIn; rw [hC] <;> rfl
  unfold EsX.sup
  obtain ⟨pl, he⟩ := hev
  refine ks_wpAt_Expr_any (ks_wpAt_MethodCall (pl := pl) ?_ he)
  refine ks_wpAt_super_base (env := ksEnv qual (scp fs) L fI (.ref cda) cc) hks hkc (by decide) rfl (X _ _ hf) rfl (ar := { arg := "self", annotation := none, pos := p0 }) rfl rfl (X _ _ hcode) rfl hvs hfile T.file ?_
  refine ks_loadName_global rfl hks (loadGlobal_builtin (env := ksEnv qual (scp fs) L fI (.ref cda) cc) (M.glob.keeps hb) T.sup (hmb.keeps hb) ((hbl _ (by decide +kernel)).trans (by decide +kernel)) ⟨rfl, ?_⟩)
  refine wpAny_loadName_free rfl hkc rfl ⟨_, X _ _ hcell, rfl⟩ ?_
  refine wpAny_loadName_local rfl rfl hn hself ?_
  refine ks_wpAny_isType_cls (X _ _ hC) rfl ⟨rfl, ?_⟩
  have I : ∀ {h2 : Heap}, h2.get? x = some (excO C t0) → InstAt h2 x (excO C t0) C none := fun e => ⟨e, rfl, rfl, trivial⟩
  refine ks_wpAny_call_super (X _ _ hC) rfl hx rfl (fun c e => by cases e) (looks_mroIn X T.mC) (fun h1 e1 k1' => ?_)
  have X1 : K.In h1 := X.keeps k1'
  have LT : Looks (model prog w) h1 (isInstance (.ref x) (.type "ValueError")) true := (I (k1' _ _ hx)).type.andThen (looks_mroIn X1 T.mVE)
  refine kxs_getMethod kxs_ValueError e1 (looks_opaque X1 T.op) (l₀ := .ref C :: bm) ?_ (by simp [List.dropWhile_cons] : (((Value.ref C :: bm).dropWhile (· != .ref C)).drop 1) = bm) X1 hal LT (fun z => ?_) (by decide) ?_
  · exact fun A Q E s k q => wpAny_bind ((looks_clsIn X1 hcl) A _ E s k (wpAny_pure q))
  · rw [z, X _ _ hC] at hx; cases hx
  · refine kxs_callWith (i := "ValueError.__init__") (x := x) rfl (evalArgs_plain ?_)
    show wpAny _ _ (spliced (backTo pa.e (starEach [.Constant (.str txt) j pa.d] _))) _ _ _
    refine Calls.spliced_cons (show wpAny _ _ (eval (.Constant (.str txt) j pa.d) _) _ _ _ from Calls.Constant_str (Calls.spliced_nil ?_))
    have keep : ∀ b o, hh.get? b = some o → (h1.push (kxs_mw "ValueError.__init__" x)).get? b = some o := fun b o e => Heap.get?_push_of_some _ (k1' b o e)
    refine ⟨Heap.get?_push_at rfl rfl, call_mw (t0 := t0) (keep _ _ (X _ _ hC)) (keep _ _ hx) (Heap.get?_push_at rfl rfl) (by rw [sizeLine_eq]; exact (by decide : 1 ≤ 16777216)) fun h' t1 k' e' => ?_⟩
    exact hq h' t1 _ (fun b o nb e => k' b o nb (keep b o e)) e'
/-- what an error's __init__ leaves: its dict at dx holds vs under the names fs -/
structure End (h h' : Heap) (x C dx : Addr) (m : Str → Option Value) : Prop where
  keep : ∀ b o, b ≠ x → h.get? b = some o → h'.get? b = some o
  obj : ∃ t1, h'.get? x = some { cls := .ref C, dict := some dx, data := .fields #[.ref t1, .none, .none, .none, .bool false, .none] }
  dbig : h.objs.size ≤ dx
  dne : dx ≠ x
  ns : h'.Ns1 dx m
theorem init1 {f1 : Str} {x t0 fI : Addr} {v : Value} (T : EsT prog K mg C [f1]) (M : L2.Mod K mg base) (hb : ∀ b o, base.get? b = some o → s.heap.get? b = some o) (hlim : s.heap.NoLimit) (hi : findIn K (.ref C) "__init__" = some (some (.ref fI))) (hx : s.heap.get? x = some (excO C t0)) (hnx : K.lookup x = none) (hroom : A.depth < recursionLimit)
    (hf1 : (f1 == ("__debug__" : Str)) = false) (hfs : (("self" : Str) == f1) = false) (hl1 : (scp [f1]).names.lookup f1 = some .local) (hks : (scp [f1]).names.lookup ("super" : Str) = some .globalImplicit) (hkc : (scp [f1]).names.lookup ("__class__" : Str) = some .free)
    (hsw : ∀ (p : Ps) (L : Addr) (q : Str) (a : Addr) (cd : Value) (cc : Addr), swapsWith (.Name f1 p.c) (some (.Attribute (.Name "self" p.a) f1 p.b)) p.d.line (ksEnv q (scp [f1]) L a cd cc) = pure false)
    (hbd : ∀ (qual : Str) (txt : Str) (j : Nat) (pp p0 : Pos) (pa pb p1 : Ps) (doc pm ct cd : Value) (an : Option Addr) (cc : Addr), bindArgs (ksFn "__init__" qual (arg0 [(f1, pp)] p0) [EsX.sup txt j pa pb, asg f1 p1] (scp [f1]) .none .none doc pm an cd ct cc) ⟨[.ref x, v], []⟩ = pure [(("self" : Str), Value.ref x), (f1, v)])
    (hq : ∀ h' tk dx, End s.heap h' x C dx (fun y => if y = f1 then some v else none) → R (.ok (.ret .none)) { s with heap := h', toks := tk }) :
    codeAny (model prog w) A (.call (.ref fI) ⟨[.ref x, v], []⟩) R s := by
  obtain ⟨fI', cc, cda, oc, ccl, cl, doc, pm, ct, od, an, cdd, cld, osl, ccs, csl, qual, txt, j, ps, p0, pa, pb, pq, vs, fl, tf, h1, h2, h3, h4, hf, hcd, hcode, hvs, hfile, hcell, hev⟩ := T.fn
  have e : fI' = fI := by rw [hi] at h1; cases h1; rfl
  subst e
  have X : K.In s.heap := M.kin.keeps hb
  obtain ⟨nm, q, N, bs, bm, sn, sub, ab, col, dd, k0, k1, k2, k3, k5, hC, hbm, hal⟩ := T.cls
  have hcl : clsIn K C = some { name := nm, bases := bs, mro := .ref C :: bm, ns := N, qualname := q, hasDict := true, slotNames := sn, subclasses := sub, abstract := ab, collection := col, hasDel := false } := by unfold clsIn; rw [hC] <;> rfl
  match ps, h3, pq, h4 with
  | [pp], _, [p1], _ =>
    have hf' : K.lookup fI' = some ⟨oc, od, .func (ksFn "__init__" qual (arg0 [(f1, pp)] p0) [EsX.sup txt j pa pb, asg f1 p1] (scp [f1]) .none .none doc pm an (.ref cda) ct cc), osl⟩ := hf
    refine ks_codeAny_call_defAt (fd := ksFn "__init__" qual (arg0 [(f1, pp)] p0) [EsX.sup txt j pa pb, asg f1 p1] (scp [f1]) .none .none doc pm an (.ref cda) ct cc) (binds := [(("self" : Str), Value.ref x), (f1, v)]) hroom (X _ _ hf') rfl hlim (codeRec_of X hcd) rfl (.of_eq (hbd qual txt j pp p0 pa pb p1 doc pm ct (.ref cda) an cc)) ?_ ?_ (fun h₁ hns hk₁ => ?_)
    · intro y hy
      simp [scp] at hy
      rcases hy with rfl | rfl | rfl | rfl <;> (intro z; cases z)
    · intro y hy
      simp at hy
      rcases hy with rfl | rfl
      · rfl
      · exact hl1
    · have xL : x ≠ s.heap.objs.size := Nat.ne_of_lt (Heap.lt_size hx)
      have hS : (List.reverse [(("self" : Str), Value.ref x), (f1, v)]).lookup ("self" : Str) = some (Value.ref x) := by
        show (match (("self" : Str) == f1) with | true => some v | false => List.lookup ("self" : Str) [(("self" : Str), Value.ref x)]) = _
        rw [hfs]
        simp [List.lookup]
      have hF : (List.reverse [(("self" : Str), Value.ref x), (f1, v)]).lookup f1 = some v := by simp [List.lookup]
      refine ks_wpAt_execs_cons (run_sup (s := { s with heap := h₁, toks := s.toks + 2 }) T M (fun b o e => hk₁ b o (hb b o e)) (ps := [pp]) hf' hcode hvs hfile hcell hns hS (hk₁ _ _ hx) xL (hev _) hks hkc fun h2 t1 tk k2 e2 => ?_)
      have hns2 : h2.Ns s.heap.objs.size (fun y => (List.reverse [(("self" : Str), Value.ref x), (f1, v)]).lookup y) := ns_kept hns k2 (Ne.symm xL)
      have X2 : K.In h2 := fun b o e => k2 b o (fun z => by rw [z, hnx] at e; cases e) (hk₁ b o (X b o e))
      refine ks_wpAt_execs_cons (wpAt_of_wpAny (plainObj_wpAny_Assign_Attribute ?_ (hsw p1 _ qual fI' (.ref cda) cc)))
      refine wpAny_Name (wpAny_loadName_local rfl hl1 hns2 hF ?_) hf1
      refine wpAny_Name (wpAny_loadName_local rfl rfl hns2 hS ?_) (by decide)
      refine set_plain X2 (ox := excO C t1) (od := none) ⟨e2, rfl, rfl, trivial⟩ T.sa ?_
      refine exc_osa X2 e2 hcl hbm rfl (T.noN f1 (by simp)) (fun h3 tk3 dx k3 dn dne e3 n3 => ?_)
      refine wpAt_of_wpAny (wpAny_execs_nil (hq h3 tk3 dx ⟨fun b o nb e => k3 b o nb (k2 b o nb (hk₁ b o e)), ⟨t1, e3⟩, ?_, dne, n3⟩))
      exact Nat.le_of_lt (Nat.lt_of_lt_of_le hns2.lt dn)
theorem init2 {f1 f2 : Str} {x t0 fI : Addr} {v v2 : Value} (T : EsT prog K mg C [f1, f2]) (M : L2.Mod K mg base) (hb : ∀ b o, base.get? b = some o → s.heap.get? b = some o) (hlim : s.heap.NoLimit) (hi : findIn K (.ref C) "__init__" = some (some (.ref fI))) (hx : s.heap.get? x = some (excO C t0)) (hnx : K.lookup x = none) (hroom : A.depth < recursionLimit)
    (hf1 : (f1 == ("__debug__" : Str)) = false) (hf2 : (f2 == ("__debug__" : Str)) = false) (hfs : (("self" : Str) == f1) = false) (hfs2 : (("self" : Str) == f2) = false) (h12 : (f1 == f2) = false) (hl1 : (scp [f1, f2]).names.lookup f1 = some .local) (hl2 : (scp [f1, f2]).names.lookup f2 = some .local)
    (hks : (scp [f1, f2]).names.lookup ("super" : Str) = some .globalImplicit) (hkc : (scp [f1, f2]).names.lookup ("__class__" : Str) = some .free)
    (hsw : ∀ (f : Str) (p : Ps) (L : Addr) (q : Str) (a : Addr) (cd : Value) (cc : Addr), f = f1 ∨ f = f2 → swapsWith (.Name f p.c) (some (.Attribute (.Name "self" p.a) f p.b)) p.d.line (ksEnv q (scp [f1, f2]) L a cd cc) = pure false)
    (hbd : ∀ (qual : Str) (txt : Str) (j : Nat) (pp pp2 p0 : Pos) (pa pb p1 p2 : Ps) (doc pm ct cd : Value) (an : Option Addr) (cc : Addr), bindArgs (ksFn "__init__" qual (arg0 [(f1, pp), (f2, pp2)] p0) [EsX.sup txt j pa pb, asg f1 p1, asg f2 p2] (scp [f1, f2]) .none .none doc pm an cd ct cc) ⟨[.ref x, v, v2], []⟩ = pure [(("self" : Str), Value.ref x), (f1, v), (f2, v2)])
    (hq : ∀ h' tk dx, End s.heap h' x C dx (fun y => if y = f2 then some v2 else if y = f1 then some v else none) → R (.ok (.ret .none)) { s with heap := h', toks := tk }) :
    codeAny (model prog w) A (.call (.ref fI) ⟨[.ref x, v, v2], []⟩) R s := by
  obtain ⟨fI', cc, cda, oc, ccl, cl, doc, pm, ct, od, an, cdd, cld, osl, ccs, csl, qual, txt, j, ps, p0, pa, pb, pq, vs, fl, tf, h1, h2, h3, h4, hf, hcd, hcode, hvs, hfile, hcell, hev⟩ := T.fn
  have e : fI' = fI := by rw [hi] at h1; cases h1; rfl
  subst e
  have X : K.In s.heap := M.kin.keeps hb
  obtain ⟨nm, q, N, bs, bm, sn, sub, ab, col, dd, k0, k1, k2, k3, k5, hC, hbm, hal⟩ := T.cls
  have hcl : clsIn K C = some { name := nm, bases := bs, mro := .ref C :: bm, ns := N, qualname := q, hasDict := true, slotNames := sn, subclasses := sub, abstract := ab, collection := col, hasDel := false } := by unfold clsIn; rw [hC] <;> rfl
  match ps, h3, pq, h4 with
  | [pp, pp2], _, [p1, p2], _ =>
    have hf' : K.lookup fI' = some ⟨oc, od, .func (ksFn "__init__" qual (arg0 [(f1, pp), (f2, pp2)] p0) [EsX.sup txt j pa pb, asg f1 p1, asg f2 p2] (scp [f1, f2]) .none .none doc pm an (.ref cda) ct cc), osl⟩ := hf
    refine ks_codeAny_call_defAt (fd := ksFn "__init__" qual (arg0 [(f1, pp), (f2, pp2)] p0) [EsX.sup txt j pa pb, asg f1 p1, asg f2 p2] (scp [f1, f2]) .none .none doc pm an (.ref cda) ct cc) (binds := [(("self" : Str), Value.ref x), (f1, v), (f2, v2)]) hroom (X _ _ hf') rfl hlim (codeRec_of X hcd) rfl (.of_eq (hbd qual txt j pp pp2 p0 pa pb p1 p2 doc pm ct (.ref cda) an cc)) ?_ ?_ (fun h₁ hns hk₁ => ?_)
    · intro y hy
      simp [scp] at hy
      rcases hy with rfl | rfl | rfl | rfl | rfl <;> (intro z; cases z)
    · intro y hy
      simp at hy
      rcases hy with rfl | rfl | rfl
      · rfl
      · exact hl1
      · exact hl2
    · have xL : x ≠ s.heap.objs.size := Nat.ne_of_lt (Heap.lt_size hx)
      have hS : (List.reverse [(("self" : Str), Value.ref x), (f1, v), (f2, v2)]).lookup ("self" : Str) = some (Value.ref x) := by
        show (match (("self" : Str) == f2) with | true => some v2 | false => match (("self" : Str) == f1) with | true => some v | false => List.lookup ("self" : Str) [(("self" : Str), Value.ref x)]) = _
        rw [hfs2, hfs]
        simp [List.lookup]
      have hF : (List.reverse [(("self" : Str), Value.ref x), (f1, v), (f2, v2)]).lookup f1 = some v := by
        show (match (f1 == f2) with | true => some v2 | false => List.lookup f1 [(f1, v), (("self" : Str), Value.ref x)]) = _
        rw [h12]
        simp [List.lookup]
      have hF2 : (List.reverse [(("self" : Str), Value.ref x), (f1, v), (f2, v2)]).lookup f2 = some v2 := by simp [List.lookup]
      refine ks_wpAt_execs_cons (run_sup (s := { s with heap := h₁, toks := s.toks + 3 }) T M (fun b o e => hk₁ b o (hb b o e)) (ps := [pp, pp2]) hf' hcode hvs hfile hcell hns hS (hk₁ _ _ hx) xL (hev _) hks hkc fun h2 t1 tk k2 e2 => ?_)
      have hns2 : h2.Ns s.heap.objs.size (fun y => (List.reverse [(("self" : Str), Value.ref x), (f1, v), (f2, v2)]).lookup y) := ns_kept hns k2 (Ne.symm xL)
      have X2 : K.In h2 := fun b o e => k2 b o (fun z => by rw [z, hnx] at e; cases e) (hk₁ b o (X b o e))
      refine ks_wpAt_execs_cons (wpAt_of_wpAny (plainObj_wpAny_Assign_Attribute ?_ (hsw f1 p1 _ qual fI' (.ref cda) cc (.inl rfl))))
      refine wpAny_Name (wpAny_loadName_local rfl hl1 hns2 hF ?_) hf1
      refine wpAny_Name (wpAny_loadName_local rfl rfl hns2 hS ?_) (by decide)
      refine set_plain X2 (ox := excO C t1) (od := none) ⟨e2, rfl, rfl, trivial⟩ T.sa ?_
      refine exc_osa X2 e2 hcl hbm rfl (T.noN f1 (by simp)) (fun h3 tk3 dx k3 dn dne e3 n3 => ?_)
      have hns3 : h3.Ns s.heap.objs.size (fun y => (List.reverse [(("self" : Str), Value.ref x), (f1, v), (f2, v2)]).lookup y) := ns_kept hns2 k3 (Ne.symm xL)
      have X3 : K.In h3 := fun b o e => k3 b o (fun z => by rw [z, hnx] at e; cases e) (X2 b o e)
      refine ks_wpAt_execs_cons (wpAt_of_wpAny (plainObj_wpAny_Assign_Attribute ?_ (hsw f2 p2 _ qual fI' (.ref cda) cc (.inr rfl))))
      refine wpAny_Name (wpAny_loadName_local rfl hl2 hns3 hF2 ?_) hf2
      refine wpAny_Name (wpAny_loadName_local rfl rfl hns3 hS ?_) (by decide)
      obtain ⟨od3, es3, ep3, ho3, r3⟩ := id n3
      refine set_plain X3 (od := some od3) ⟨e3, rfl, rfl, ho3⟩ T.sa ?_
      refine OEX.osa_old (nl := [f1]) X3 e3 n3 (fun y hy => ?_) (by simp) hcl hbm rfl (T.noN f2 (by simp)) (fun h4 tk4 k4 n4 => ?_)
      · by_cases z : y = f1
        · exact List.mem_singleton.mpr z
        · exact absurd (if_neg z) hy
      · refine wpAt_of_wpAny (wpAny_execs_nil (hq h4 tk4 dx ⟨fun b o nb e => k4 b o ?_ (k3 b o nb (k2 b o nb (hk₁ b o e))), ⟨t1, k4 _ _ (Ne.symm dne) e3⟩, ?_, dne, n4⟩))
        · have z : b < h2.objs.size := Heap.lt_size (k2 b o nb (hk₁ b o e))
          exact Nat.ne_of_lt (Nat.lt_of_lt_of_le z dn)
        · exact Nat.le_of_lt (Nat.lt_of_lt_of_le hns2.lt dn)
/-- a made error -/
structure Made (h h' : Heap) (e C d : Addr) (m : Str → Option Value) : Prop where
  keep : ∀ b o, h.get? b = some o → h'.get? b = some o
  new : h.objs.size ≤ e
  obj : ∃ oe vs, h'.get? e = some oe ∧ oe.cls = .ref C ∧ oe.dict = some d ∧ oe.data = .fields vs ∧ vs[1]? = some .none ∧ vs[2]? = some .none
  dbig : h.objs.size ≤ d
  dne : d ≠ e
  ns : h'.Ns1 d m
theorem made {fs : List Str} {us : List Value} {m : Str → Option Value} (T : EsT prog K mg C fs) (M : L2.Mod K mg base) (hb : ∀ b o, base.get? b = some o → s.heap.get? b = some o) (hlim : s.heap.NoLimit) (hroom : A.depth + 1 < recursionLimit) (hz : us.length ≤ sizeLine)
    (hinit : ∀ (A' : Around) (R' : Result → Shared → Prop) (s' : Shared) (x t0 fI : Addr), A'.depth < recursionLimit → (∀ b o, base.get? b = some o → s'.heap.get? b = some o) → s'.heap.NoLimit → findIn K (.ref C) "__init__" = some (some (.ref fI)) → s'.heap.get? x = some (excO C t0) → K.lookup x = none →
      (∀ h' tk dx, End s'.heap h' x C dx m → R' (.ok (.ret .none)) { s' with heap := h', toks := tk }) → codeAny (model prog w) A' (.call (.ref fI) ⟨.ref x :: us, []⟩) R' s')
    (hq : ∀ h' tk e d, Made s.heap h' e C d m → R (.ok (.ret (.ref e))) { s with heap := h', toks := tk }) : codeAny (model prog w) A (.call (.ref C) ⟨us, []⟩) R s := by
  have X : K.In s.heap := M.kin.keeps hb
  obtain ⟨nm, q, N, bs, bm, sn, sub, ab, col, dd, k0, k1, k2, k3, k5, hC, hbm, _⟩ := T.cls
  obtain ⟨fI, cc, cda, oc, ccl, cl, doc, pm, ct, od, an, cdd, cld, osl, ccs, csl, qual, txt, j, ps, p0, pa, pb, pq, vs, fl, tf, iC, tC, _⟩ := T.fn
  obtain ⟨hp, g, dr, tk, os⟩ := s
  have k : ∀ b o, hp.get? b = some o → ((hp.push (kdv_tup us)).push (excO C hp.objs.size)).get? b = some o := fun b o e => Heap.get?_push_of_some _ (Heap.get?_push_of_some _ e)
  have hget : ((hp.push (kdv_tup us)).push (excO C hp.objs.size)).get? (hp.objs.size + 1) = some (excO C hp.objs.size) := by heap_get
  have hnx : K.lookup (hp.objs.size + 1) = none := by
    cases e : K.lookup (hp.objs.size + 1) with
    | none => rfl
    | some o =>
      have z : hp.get? (hp.objs.size + 1) = some o := X _ _ e
      exact absurd (Nat.lt_of_succ_lt (Heap.lt_size z)) (Nat.lt_irrefl _)
  refine call_own F.excBase_ValueError (fun X => refsVE_contains X bm hbm) (X _ _ hC) (looks_findIn X iC) (fun self => bind_fn X self tC) hz ?_
  refine hinit _ _ ⟨(hp.push (kdv_tup us)).push (excO C hp.objs.size), g, dr, tk, os⟩ _ _ fI ?_ (fun b o e => k b o (hb b o e)) (hlim.keeps k) iC hget hnx fun h' tk' dx en => ?_
  · show A.depth + 1 < recursionLimit
    exact hroom
  · have old : ∀ b o, hp.get? b = some o → h'.get? b = some o := fun b o e => en.keep b o (Nat.ne_of_lt (Nat.lt_succ_of_lt (Heap.lt_size e))) (k b o e)
    have z : hp.objs.size + 1 + 1 ≤ dx := by
      first
        | (simpa only [Heap.size_push] using en.dbig)
        | exact en.dbig
        | (have q := en.dbig; rw [Heap.size_push, Heap.size_push] at q; exact q)
    obtain ⟨t1, ob⟩ := en.obj
    exact ⟨rfl, hq h' tk' (hp.objs.size + 1) dx ⟨old, Nat.le_succ _, ⟨_, _, ob, rfl, rfl, rfl, rfl, rfl⟩, Nat.le_trans (Nat.le_trans (Nat.le_succ _) (Nat.le_succ _)) z, en.dne, en.ns⟩⟩
end
end EsX
end PySem
set_option Elab.async false
set_option linter.all false
set_option maxRecDepth 100000
set_option maxHeartbeats 2000000
/-! Sim 12: raise. -/
namespace Sm
open PySem PySem.Spec PyProof.Rows L2
open PySem.EsX (EsT Made)

theorem relO_if1 {v : V} {u : Value} (r : RelV v u) (f1 f : Str) : RelO (List.lookup f [(f1, v)]) (if f = f1 then some u else none) := by
  by_cases h : f = f1
  · subst h; simp [List.lookup]; exact r
  · have e : (f == f1) = false := by simpa using h
    simp [List.lookup, e, h]; trivial
theorem relO_if2 {v v2 : V} {u u2 : Value} (r : RelV v u) (r2 : RelV v2 u2) (f1 f2 f : Str) : RelO (List.lookup f [(f2, v2), (f1, v)]) (if f = f2 then some u2 else if f = f1 then some u else none) := by
  by_cases h : f = f2
  · subst h; simp [List.lookup]; exact r2
  · have e : (f == f2) = false := by simpa using h
    simp only [List.lookup, e, if_neg h]
    exact relO_if1 r f1 f
section
variable {X : Cx} {C : Addr}
/-- an error just made is what a raise wants -/
theorem mk_made {pins : List (Addr × Obj)} {σ : L2.St} {H1 : Hp} {Q : XK} {hp h' : Heap} {g : Array GenState} {dr : Drawn} {tk tk' : Nat} {os : OsState} {e d : Addr} {m : Str → Option Value} {fs : List (Str × V)} (I1 : Inv X pins σ H1 ⟨hp, g, dr, tk, os⟩) (M : Made hp h' e C d m)
    (hr : ∀ f, RelO (fs.lookup f) (m f)) (r : Raises X (.ref C)) (hQ : ∀ d, H1 d = none → Q (.ref C) (some d) (upd H1 d (.xd fs))) : L2N.MkP X pins σ Q (.ref e) ⟨h', g, dr, tk', os⟩ := by
  obtain ⟨oe, fv, hoe, hc, hd, hdat, h1, h2⟩ := M.obj
  obtain ⟨G', g1, g2⟩ := restrict h' fun b => decide (b ≠ e)
  have gk : ∀ b, b ≠ e → G'.get? b = h'.get? b := fun b hb => g1 b (decide_eq_true hb)
  have ge : G'.get? e = none := g2 e (by simp)
  have old : ∀ b o, hp.get? b = some o → G'.get? b = some o := fun b o q => (gk b (Nat.ne_of_lt (Nat.lt_of_lt_of_le (Heap.lt_size q) M.new))).trans (M.keep b o q)
  have ob : ObjOk X.prog X.w (upd H1 d (.xd fs)) G' d (.xd fs) := ⟨m, M.ns.at (fun o q => (gk d M.dne).trans q), hr⟩
  have J : Inv X pins σ (upd H1 d (.xd fs)) ⟨G', g, dr, tk', os⟩ := I1.laid (t' := tk') old M.dbig ob
  refine ⟨e, oe, fv, ⟨G', g, dr, tk', os⟩, _, .ref C, some d, rfl, J, fun b o q => ?_, ge, hoe, ⟨hc, hd, fun vs e => by rw [hdat] at e; cases e; exact h2⟩, hdat, h1, ?_, rfl, I1.bare, r, hQ d (I1.hok.fresh M.dbig)⟩
  · by_cases hb : b = e
    · have q' : G'.get? b = some o := q
      rw [hb, ge] at q'; cases q'
    · exact (gk b hb).symm.trans q
  · rw [upd_ne (Ne.symm M.dne)]
    exact I1.hok.fresh M.new
/-- C(a), C(a, b) -/
def tMk1 (C : Addr) (f1 : Str) (ta : TA) : L2.St → Hp → XK → Prop := fun σ H Q => ta σ H fun vs H1 => ∃ v, vs = [v] ∧ ∀ d, H1 d = none → Q (.ref C) (some d) (upd H1 d (.xd [(f1, v)]))
def tMk2 (C : Addr) (f1 f2 : Str) (ta : TA) : L2.St → Hp → XK → Prop := fun σ H Q => ta σ H fun vs H1 => ∃ v v2, vs = [v, v2] ∧ ∀ d, H1 d = none → Q (.ref C) (some d) (upd H1 d (.xd [(f2, v2), (f1, v)]))
/-- what is read off the text of such an __init__ -/
structure In1 (f1 : Str) : Prop where
  hf1 : (f1 == ("__debug__" : Str)) = false
  hfs : (("self" : Str) == f1) = false
  hl1 : (EsX.scp [f1]).names.lookup f1 = some .local
  hks : (EsX.scp [f1]).names.lookup ("super" : Str) = some .globalImplicit
  hkc : (EsX.scp [f1]).names.lookup ("__class__" : Str) = some .free
  hsw : ∀ (p : EsX.Ps) (L : Addr) (q : Str) (a : Addr) (cd : Value) (cc : Addr), swapsWith (.Name f1 p.c) (some (.Attribute (.Name "self" p.a) f1 p.b)) p.d.line (W.ksEnv q (EsX.scp [f1]) L a cd cc) = pure false
  hbd : ∀ (x v : Value) (qual : Str) (txt : Str) (j : Nat) (pp p0 : Pos) (pa pb p1 : EsX.Ps) (doc pm ct cd : Value) (an : Option Addr) (cc : Addr), bindArgs (W.ksFn "__init__" qual (EsX.arg0 [(f1, pp)] p0) [EsX.sup txt j pa pb, EsX.asg f1 p1] (EsX.scp [f1]) .none .none doc pm an cd ct cc) ⟨[x, v], []⟩ = pure [(("self" : Str), x), (f1, v)]
structure In2 (f1 f2 : Str) : Prop where
  hf1 : (f1 == ("__debug__" : Str)) = false
  hf2 : (f2 == ("__debug__" : Str)) = false
  hfs : (("self" : Str) == f1) = false
  hfs2 : (("self" : Str) == f2) = false
  h12 : (f1 == f2) = false
  hl1 : (EsX.scp [f1, f2]).names.lookup f1 = some .local
  hl2 : (EsX.scp [f1, f2]).names.lookup f2 = some .local
  hks : (EsX.scp [f1, f2]).names.lookup ("super" : Str) = some .globalImplicit
  hkc : (EsX.scp [f1, f2]).names.lookup ("__class__" : Str) = some .free
  hsw : ∀ (f : Str) (p : EsX.Ps) (L : Addr) (q : Str) (a : Addr) (cd : Value) (cc : Addr), f = f1 ∨ f = f2 → swapsWith (.Name f p.c) (some (.Attribute (.Name "self" p.a) f p.b)) p.d.line (W.ksEnv q (EsX.scp [f1, f2]) L a cd cc) = pure false
  hbd : ∀ (x v v2 : Value) (qual : Str) (txt : Str) (j : Nat) (pp pp2 p0 : Pos) (pa pb p1 p2 : EsX.Ps) (doc pm ct cd : Value) (an : Option Addr) (cc : Addr), bindArgs (W.ksFn "__init__" qual (EsX.arg0 [(f1, pp), (f2, pp2)] p0) [EsX.sup txt j pa pb, EsX.asg f1 p1, EsX.asg f2 p2] (EsX.scp [f1, f2]) .none .none doc pm an cd ct cc) ⟨[x, v, v2], []⟩ = pure [(("self" : Str), x), (f1, v), (f2, v2)]
theorem pmk1 {x f1 : Str} {a : Expr} {ta : TA} {p pos : Pos} {k : Nat} (T : EsT X.prog X.K X.mg C [f1]) (hi : In1 f1) (gC : X.mg x = some (.ref C)) (kC : PySem.W.keepIn X.K (.ref C) = true) (rC : Raises X (.ref C)) (hr : Room k X.A) (ha : PA X [a] ta) (hg : Gl X x := by rfl)
    (he : starEach (a :: []) X.env = (false, eval a X.env) :: starEach [] X.env := by rfl) (hpl : (backTo pos (starEach [] X.env)).any (·.1) = false := by rfl) (hdb : (x == ("__debug__" : Str)) = false := by decide) :
    L2N.PMk X (.Call (.Name x p) [a] [] pos) (tMk1 C f1 ta) := by
  intro pins s σ H Q I h
  refine wpAny_Call_Name_kw (ld_glob I hg gC ?_ hdb)
  refine PySem.W.callWith_K (h₀ := X.base) I.ok.mod.kin kC (thn (ha.run pos pins s σ H _ I h) fun us s1 ⟨vs, H1, I1, r1, v, ev, q1⟩ => ?_) he hpl
  subst ev
  refine ⟨I1.kIn, ?_⟩
  obtain ⟨u, rfl, ru⟩ := vals1 r1
  have hlim := I1.nolimit
  have hbk := I1.bk
  obtain ⟨hp, g, dr, tk, os⟩ := s1
  refine (wpAny_call (EsX.made (A := X.A) (m := fun y => if y = f1 then some u else none) T I1.ok.mod hbk hlim (by have := hr.dp; omega) (by rw [sizeLine_eq]; exact (by decide : 1 ≤ 16777216)) (fun A' R' s' x t0 fI hd hb' hl' hi' hx hnx hq => EsX.init1 T I1.ok.mod hb' hl' hi' hx hnx hd hi.hf1 hi.hfs hi.hl1 hi.hks hi.hkc hi.hsw (hi.hbd _ _) hq) fun h' tk' e d M => mk_made I1 M (relO_if1 ru f1) rC q1) : wpAny _ _ (call (.ref C) [u]) _ _ _)
theorem pmk2 {x f1 f2 : Str} {a b : Expr} {ta : TA} {p pos : Pos} {k : Nat} (T : EsT X.prog X.K X.mg C [f1, f2]) (hi : In2 f1 f2) (gC : X.mg x = some (.ref C)) (kC : PySem.W.keepIn X.K (.ref C) = true) (rC : Raises X (.ref C)) (hr : Room k X.A) (ha : PA X [a, b] ta) (hg : Gl X x := by rfl)
    (he : starEach (a :: [b]) X.env = (false, eval a X.env) :: starEach [b] X.env := by rfl) (hpl : (backTo pos (starEach [b] X.env)).any (·.1) = false := by rfl) (hdb : (x == ("__debug__" : Str)) = false := by decide) :
    L2N.PMk X (.Call (.Name x p) [a, b] [] pos) (tMk2 C f1 f2 ta) := by
  intro pins s σ H Q I h
  refine wpAny_Call_Name_kw (ld_glob I hg gC ?_ hdb)
  refine PySem.W.callWith_K (h₀ := X.base) I.ok.mod.kin kC (thn (ha.run pos pins s σ H _ I h) fun us s1 ⟨vs, H1, I1, r1, v, v2, ev, q1⟩ => ?_) he hpl
  subst ev
  refine ⟨I1.kIn, ?_⟩
  obtain ⟨u, u2, rfl, ru, ru2⟩ := vals2 r1
  have hlim := I1.nolimit
  have hbk := I1.bk
  obtain ⟨hp, g, dr, tk, os⟩ := s1
  refine (wpAny_call (EsX.made (A := X.A) (m := fun y => if y = f2 then some u2 else if y = f1 then some u else none) T I1.ok.mod hbk hlim (by have := hr.dp; omega) (by rw [sizeLine_eq]; exact (by decide : 2 ≤ 16777216)) (fun A' R' s' x t0 fI hd hb' hl' hi' hx hnx hq => EsX.init2 T I1.ok.mod hb' hl' hi' hx hnx hd hi.hf1 hi.hf2 hi.hfs hi.hfs2 hi.h12 hi.hl1 hi.hl2 hi.hks hi.hkc hi.hsw (hi.hbd _ _ _) hq) fun h' tk' e d M => mk_made I1 M (relO_if2 ru ru2 f1 f2) rC q1) : wpAny _ _ (call (.ref C) [u, u2]) _ _ _)
end
example : In1 "coins" := ⟨by decide, by decide, by rfl, by rfl, by rfl, fun _ _ _ _ _ _ => rfl, fun _ _ _ _ _ _ _ _ _ _ _ _ _ _ _ _ => rfl⟩
example : In2 "price" "coins" := ⟨by decide, by decide, by decide, by decide, by decide, by rfl, by rfl, by rfl, by rfl, fun _ _ _ _ _ _ _ h => by rcases h with rfl | rfl <;> rfl, fun _ _ _ _ _ _ _ _ _ _ _ _ _ _ _ _ _ _ _ => rfl⟩
end Sm
set_option Elab.async false
set_option linter.all false
set_option maxRecDepth 100000
set_option maxHeartbeats 2000000
/-! Sim 13: functions and their calls. -/
namespace Sm
open PySem PySem.Spec PyProof.Rows L2

def NoSlot (g : Gh) : Prop := ∀ a i, g.own a ≠ some (.slot i)
def RepY (K : PySem.W.Frag) (C : Cfg) (fresh : Bool) (g : Gh) (H : Hp) (d : D) (v : V) : Prop := if fresh = true then RepN K C g H d v else Rep K C g.G g.ρ d v
def PSp (K : PySem.W.Frag) (C : Cfg) (lv fresh : Bool) (g : Gh) (H : Hp) (Q : VK) (E : XK) : Rx D → Prop
  | .ok d S' => ∀ g' H' v, NoSlot g' → Stp (cE lv) g H g' H' → StoOk K C g' H' S' → RepY K C fresh g' H' d v → (fresh = true → ∀ p, v = .ref p → H p = none) → Q v H'
  | .err x S' => ∀ g' H' cls dx, NoSlot g' → Stp (cE lv) g H g' H' → StoOk K C g' H' S' → RepX K C g' x cls dx → E cls dx H'
  | .stuck => False
abbrev Fn := List D → Sto → Rx D
def spF (K : PySem.W.Frag) (C : Cfg) (lv fresh : Bool) (F : Fn) : Sp := fun vs H Q E => ∃ g ds S, NoSlot g ∧ StoOk K C g H S ∧ Reps K C g.G g.ρ ds vs ∧ PSp K C lv fresh g H Q E (F ds S)
/-- a def's mirror: n parameters, N names, m its body -/
def mFn (n N : Nat) (fresh : Bool) (m : Ms) : Fn := fun ds S => if ds.length = n then (match m (ds.map some ++ List.replicate (N - ds.length) none) S with
  | .ret d S' => .ok d S'
  | .next _ S' => if fresh = true then .stuck else .ok .non S'
  | .err x _ S' => .err x S'
  | _ => .stuck) else .stuck
def Gh.drop (g : Gh) : Gh := { g with own := fun a => match g.own a with
  | some (.slot _) => none
  | o => o }
def Gh.back (g g1 : Gh) : Gh := { g1 with own := fun a => match g.own a with
  | some (.slot i) => some (.slot i)
  | _ => g1.own a }
section
variable {K : PySem.W.Frag} {C : Cfg} {lv fresh : Bool} {g g' : Gh} {H H' : Hp} {S : Sto}
theorem drop_own {a : Addr} {w : Ow} (h : g.drop.own a = some w) : g.own a = some w ∧ ∀ i, w ≠ .slot i := by
  unfold Gh.drop at h
  simp only at h
  split at h
  · cases h
  · rename_i e
    exact ⟨h, fun i z => by rw [z] at h; exact e i h⟩
theorem drop_own' {a : Addr} {w : Ow} (h : g.own a = some w) (k : ∀ i, w ≠ .slot i) : g.drop.own a = some w := by
  unfold Gh.drop
  simp only
  rw [h]
  cases w <;> first | exact absurd rfl (k _) | rfl
theorem drop_no : NoSlot g.drop := fun a i h => (drop_own h).2 i rfl
theorem drop_sto (s : StoOk K C g H S) : StoOk K C g.drop H S :=
  sto_keep s s.sub rfl (Same.refl _) (fun a w h => s.fro a w (drop_own h).1) fun a w h k => ⟨drop_own' h k, rfl⟩
/-- a body's step, told to the caller -/
theorem drop_stp (hn : NoSlot g) (st : Stp (cS lv) g H g' H') : Stp (cE lv) g H g'.drop H' := by
  have cc : ∀ a w, g.own a = some w → cS lv w = cE lv w := fun a w h => by
    cases w with
    | slot i => exact absurd h (hn a i)
    | _ => rfl
  exact ⟨st.gG, fun a o h k => st.fr a o h fun w hw => by rw [cc a w hw]; exact k w hw, st.lv, fun a w h k => drop_own' (st.ow a w h (by rw [cc a w h]; exact k)) fun i z => by rw [z] at h; exact hn a i h,
    fun a w h => st.nw a w (drop_own h).1, fun a o h => (st.ng a o h).imp_right fun z => z.imp_right fun ⟨w, q, c⟩ => ⟨w, q, by rw [← cc a w q]; exact c⟩, st.ro⟩
theorem back_slot {g1 : Gh} {a : Addr} {i : Nat} (h : g.own a = some (.slot i)) : (g.back g1).own a = some (.slot i) := by
  show (match g.own a with | some (.slot i) => some (.slot i) | _ => g1.own a) = some (.slot i)
  rw [h]
theorem back_other {g1 : Gh} {a : Addr} (h : ∀ i, g.own a ≠ some (.slot i)) : (g.back g1).own a = g1.own a := by
  show (match g.own a with | some (.slot i) => some (.slot i) | _ => g1.own a) = g1.own a
  split
  · rename_i i e; exact absurd e (h i)
  · exact rfl
theorem slot_or (g : Gh) (a : Addr) : (∃ i, g.own a = some (.slot i)) ∨ ∀ i, g.own a ≠ some (.slot i) := by
  cases e : g.own a with
  | none => exact .inr fun i z => by cases z
  | some w =>
    cases w with
    | slot i => exact .inl ⟨i, rfl⟩
    | _ => exact .inr fun i z => by cases z
theorem back_stp (s : StoOk K C g H S) (st : Stp (cE lv) g.drop H g' H') : Stp (cE lv) g H (g.back g') H' where
  gG := st.gG
  fr := fun a o h k => st.fr a o h fun w hw => k w (drop_own hw).1
  lv := st.lv
  ow := fun a w h k => by
    rcases slot_or g a with ⟨i, z⟩ | z
    · rw [z] at h; cases h; exact back_slot z
    · rw [back_other z]
      exact st.ow a w (drop_own' h fun i q => by rw [q] at h; exact z i h) k
  nw := fun a w h => by
    rcases slot_or g a with ⟨i, z⟩ | z
    · rw [back_slot z] at h; cases h; exact .inl z
    · rw [back_other z] at h
      exact (st.nw a w h).imp_left fun q => (drop_own q).1
  ng := fun a o h => (st.ng a o h).imp_right fun z => z.imp_right fun ⟨w, q, c⟩ => ⟨w, (drop_own q).1, c⟩
  ro := st.ro
theorem slot_kept (s : StoOk K C g H S) (st : Stp (cE lv) g.drop H g' H') {a : Addr} {i : Nat} (z : g.own a = some (.slot i)) : g'.G a = none ∧ H' a ≠ none ∧ g'.own a = none := by
  obtain ⟨h1, h2⟩ := s.fro a _ z
  have nd : ∀ w, g.drop.own a ≠ some w := fun w q => by
    obtain ⟨q1, q2⟩ := drop_own q
    rw [z] at q1; cases q1; exact q2 i rfl
  refine ⟨?_, ?_, ?_⟩
  · cases e : g'.G a with
    | none => rfl
    | some o =>
      rcases st.ng a o e with q | q | ⟨w, q, _⟩
      · have q' : g.G a = some o := q
        rw [h1] at q'; cases q'
      · exact absurd q h2
      · exact absurd q (nd w)
  · cases e : H a with
    | none => exact absurd e h2
    | some o => rw [st.fr a o e fun w hw => absurd hw (nd w)]; exact fun z => by cases z
  · cases e : g'.own a with
    | none => rfl
    | some w =>
      rcases st.nw a w e with q | q
      · exact absurd q (nd w)
      · exact absurd q h2
theorem back_sto {S' : Sto} (s : StoOk K C g H S) (st : Stp (cE lv) g.drop H g' H') (s' : StoOk K C g' H' S') : StoOk K C (g.back g') H' S' := by
  refine sto_keep s' s'.sub rfl (Same.refl _) (fun a w h => ?_) fun a w h k => ⟨?_, rfl⟩
  · rcases slot_or g a with ⟨i, z⟩ | z
    · obtain ⟨q1, q2, _⟩ := slot_kept s st z
      exact ⟨q1, q2⟩
    · rw [back_other z] at h
      exact s'.fro a w h
  · rcases slot_or g a with ⟨i, z⟩ | z
    · rw [(slot_kept s st z).2.2] at h; cases h
    · rw [back_other z]; exact h
theorem PSp.weak {lv' : Bool} {Q : VK} {E : XK} {r : Rx D} (hl : lv' = true → lv = true) (h : PSp K C lv fresh g H Q E r) : PSp K C lv' fresh g H Q E r := by
  have up : ∀ {g' H'}, Stp (cE lv') g H g' H' → Stp (cE lv) g H g' H' := fun s => s.weak fun w q => by
    cases w with
    | slot i => cases q
    | _ => exact hl q
  cases r with
  | ok d S' => exact fun g' H' v n s so re fr => h g' H' v n (up s) so re fr
  | err x S' => exact fun g' H' cls dx n s so re => h g' H' cls dx n (up s) so re
  | stuck => exact h
end
section
variable {K : PySem.W.Frag} {J : Jd} {Γ : List Bool} {σ : L2.St} {sl : List (Option D)} {g : Gh} {H : Hp} {S : Sto}
theorem call_D {Q : VK} {r : Rx D} (rl : Rel K J.C Γ g sl S σ H) (p : PD K J Γ σ sl g H Q r) : PSp K J.C J.lv false g.drop H Q (WE J.W σ) r := by
  cases r with
  | ok d S' =>
    intro g' H' v n s so re _
    have re : Rep K J.C g'.G g'.ρ d v := by unfold RepY at re; rw [if_neg Bool.false_ne_true] at re; exact re
    exact p _ H' v (back_stp rl.sto s) (rl.step (back_stp rl.sto s) (back_sto rl.sto s so)) re
  | err x S' =>
    intro g' H' cls dx n s so re
    exact p _ H' cls dx (back_stp rl.sto s) (rl.step (back_stp rl.sto s) (back_sto rl.sto s so)) re
  | stuck => exact p
theorem call_N {Q : VK} {r : Rx D} (rl : Rel K J.C Γ g sl S σ H) (p : PN K J Γ σ sl g H Q r) : PSp K J.C J.lv true g.drop H Q (WE J.W σ) r := by
  cases r with
  | ok d S' =>
    intro g' H' v n s so re fr
    have re : RepN K J.C g' H' d v := by unfold RepY at re; rw [if_pos rfl] at re; exact re
    refine p _ H' v (back_stp rl.sto s) (rl.step (back_stp rl.sto s) (back_sto rl.sto s so)) ?_ (fr rfl)
    obtain ⟨q, rfl, h1, h2, h3⟩ := re
    refine ⟨q, rfl, ?_, h2, h3.mono rfl (Same.refl _) fun _ _ z => z⟩
    rw [back_other fun i z => (rl.sto.fro q _ z).2 (fr rfl q rfl)]; exact h1
  | err x S' =>
    intro g' H' cls dx n s so re
    exact p _ H' cls dx (back_stp rl.sto s) (rl.step (back_stp rl.sto s) (back_sto rl.sto s so)) re
  | stuck => exact p
end

/-! ### a def's promise, by its body -/
section
variable {P : Program} {w : World} {K : PySem.W.Frag} {mg : Str → Option Value} {base : Heap} {C : Cfg} {lv fresh : Bool}
theorem getD_rep (n i : Nat) : (List.replicate n false).getD i false = false := by
  simp only [List.getD_eq_getElem?_getD, List.getElem?_replicate]
  split <;> rfl
theorem start_rel {g : Gh} {H : Hp} {S : Sto} {ds : List D} {vs : List V} {N : List Str} (hca : C.cau = none) (s : StoOk K C g H S) (r : Reps K C g.G g.ρ ds vs) : Rel K C (List.replicate N.length false) g (ds.map some ++ List.replicate (N.length - ds.length) none) S (L2.start N vs) H := by
  have hl := r.length
  refine ⟨s, ?_, fun i d e _ => ?_, fun i d e q => ?_, fun c q => by rw [hca] at q; cases q⟩
  · unfold L2.start
    simp only [List.length_append, List.length_map, List.length_replicate]
    omega
  · by_cases hi : i < ds.length
    · rw [List.getElem?_append_left (by simpa using hi), List.getElem?_map] at e
      cases e1 : ds[i]? with
      | none => rw [e1] at e; cases e
      | some d1 =>
        rw [e1] at e
        cases e
        obtain ⟨v, h1, h2⟩ := r.get e1
        refine ⟨v, ?_, h2⟩
        unfold L2.start
        rw [List.getElem?_append_left (by simpa [← hl] using hi), List.getElem?_map, h1]; rfl
    · rw [List.getElem?_append_right (by simpa using hi), List.getElem?_replicate] at e
      split at e <;> cases e
  · rw [getD_rep] at q; cases q
/-- what the body's end says of the caller's wish -/
theorem end_run {B : Js} {Γ' : List Bool} {m : Ms} {g : Gh} {H : Hp} {S : Sto} {ds : List D} {n N : Nat} {Q : VK} {E : XK} (hn : NoSlot g) (hW : B.J.W = fun cls d _ H => E cls d H)
    (h : PSp K B.J.C B.J.lv B.fresh g H Q E (mFn n N B.fresh m ds S)) : ds.length = n ∧ PSt K B Γ' { nx := fun _ H' => Q .non H', rt := Q } g H (m (ds.map some ++ List.replicate (N - ds.length) none) S) := by
  unfold mFn at h
  by_cases hl : ds.length = n
  · rw [if_pos hl] at h
    refine ⟨hl, ?_⟩
    cases e : m (ds.map some ++ List.replicate (N - ds.length) none) S with
    | next sl' S' =>
      rw [e] at h
      by_cases hf : B.fresh = true
      · simp only [hf, if_true] at h
        exact False.elim h
      · have hf : B.fresh = false := by simpa using hf
        rw [hf] at h
        intro g' H' σ' st r
        exact h g'.drop H' .non drop_no (drop_stp hn st) (drop_sto r.sto) (by unfold RepY; rw [if_neg Bool.false_ne_true]; exact .non) fun z => by cases z
    | ret d S' =>
      rw [e] at h
      intro g' H' v st s re
      refine h g'.drop H' v drop_no (drop_stp hn st) (drop_sto s) ?_ fun hf p hp => ?_
      · unfold RepR at re
        unfold RepY
        by_cases hf : B.fresh = true
        · rw [if_pos hf] at re ⊢
          obtain ⟨p, rfl, ⟨i, h1⟩, h2⟩ := re
          refine ⟨p, rfl, ?_, (s.fro p _ h1).1, h2.mono rfl (Same.refl _) fun _ _ z => z⟩
          unfold Gh.drop; simp only; rw [h1]
        · rw [if_neg hf] at re ⊢
          exact re
      · unfold RepR at re
        rw [if_pos hf] at re
        obtain ⟨p', rfl, ⟨i, h1⟩, h2⟩ := re
        cases hp
        rcases st.nw p _ h1 with q | q
        · exact absurd q (hn p i)
        · exact q
    | brk sl' S' => rw [e] at h; exact False.elim h
    | cont sl' S' => rw [e] at h; exact False.elim h
    | err x sl' S' =>
      rw [e] at h
      intro g' H' σ' cls dx st r re
      rw [hW]
      exact h g'.drop H' cls dx drop_no (drop_stp hn st) (drop_sto r.sto) re
    | stuck => rw [e] at h; exact False.elim h
  · rw [if_neg hl] at h
    exact False.elim h
theorem fn_sim {x qual : Str} {st : Stmt} {f : Addr} {fd : FuncData} {N ps : List Str} {k : Nat} {m : Ms} {ΓX Γ' : List Bool} (hca : C.cau = none) (F : Fun K x qual st f fd) (Sc : FnScope N ps (defScope st))
    (hb : ∀ (cdv : Value) (A : Around) (outer : List Env) (s : Shared) (H : Hp) (E : XK), Room k (A.deeper (envOfC qual (defScope st) s.heap.objs.size f cdv)) →
      SSs (cxOf (L2N.CX P w) P w K mg base N qual (defScope st) f cdv A outer s H E) ⟨⟨C, fun cls d _ H => E cls d H, lv⟩, ΓX, [], fresh⟩ (List.replicate N.length false) Γ' (defBody st) m) :
    FnOk P w K mg base (L2N.CX P w) (k + 1) f fd ps (spF K C lv fresh (mFn ps.length N.length fresh m)) := by
  obtain ⟨oc, od, kV, doc, pm, an, cdv, ct, osl, rfl, lk, hcd⟩ := F.ex
  refine fn_of lk hcd Sc (fun vs H Q E h => ?_) fun A outer s H vs Q E hr h => ?_
  · obtain ⟨g, ds, S, hn, hs, hd, p⟩ := h
    have z := (end_run (B := ⟨⟨C, fun cls d _ H => E cls d H, lv⟩, ΓX, [], fresh⟩) (Γ' := Γ') hn rfl p).1
    rw [← hd.length]; exact z
  · obtain ⟨g, ds, S, hn, hs, hd, p⟩ := h
    refine ⟨_, hb cdv A outer s H E hr, ?_⟩
    exact tSt_iff.mpr ⟨g, _, S, start_rel hca hs hd, (end_run (B := ⟨⟨C, fun cls d _ H => E cls d H, lv⟩, ΓX, [], fresh⟩) hn rfl p).2⟩
end

/-! ### calls -/
section
variable {X : Cx} {CX : CXT} {k : Nat} {f C : Addr} {fd : FuncData} {ps : List Str} {sp : Sp} {E : L2.St → XK} {x m : Str} {p pos apos : Pos} {e o : Expr} {es : List Expr} {ta : TE} {t : TA}
theorem run_any {pins : List (Addr × Obj)} {σ : L2.St} {H : Hp} {s : Shared} {Q : VK} {args : Args} {ws : List Value} {zs : List V} (F : FnOk X.prog X.w X.K X.mg X.base CX k f fd ps sp) (hr : Room k X.A) (hx : PassesAt CX X σ (E σ))
    (I : Inv X pins σ H s) (b : BindsTo s fd args (ps.zip ws)) (r : Vals zs ws) (h : sp zs H Q (E σ)) : wpAny (model X.prog X.w) X.A (call (.ref f) args.pos args.kw) (EP X pins σ Q) X.xe s := by
  refine wpAny_call (codeAny_mono (F.run X.A X.stack s H args ws zs Q (E σ) hr I.env0 b r h) fun res s2 hq => ?_)
  match res, hq with
  | .error e2, hq => exact hx pins H s e2 s2 I hq
  | .ok (.ret _), hq => exact I.after hq
theorem binds_at {F : FnOk X.prog X.w X.K X.mg X.base CX k f fd ps sp} {s : Shared} {us : List Value} {vs : List V} {H : Hp} {Q : VK} {E0 : XK} (hb : Binds X.K fd ps []) (hk : X.K.In s.heap) (r : Vals vs us) (h : sp vs H Q E0) : BindsTo s fd ⟨us, []⟩ (ps.zip us) := by
  have q := hb s us hk (by rw [List.append_nil, ← r.length]; exact F.len _ _ _ _ h)
  rwa [List.append_nil] at q
end

def mCall (F : Fn) (ma : Mx (List D)) : Mx D := bindX ma fun ds _ S => F ds S
def clsOf (S : Sto) : D → Option Nat
  | .obj c _ => some c
  | .ref i => (S[i]?).map Ob.c
  | _ => none
/-- o.m(..): F by o's class -/
def mMeth (Fs : List (Nat × Fn)) (mo : Mx D) (ma : Mx (List D)) : Mx D := bindX mo fun o sl S => match (clsOf S o).bind fun c => Fs.lookup c with
  | some F => bindX ma (fun ds _ S' => F (o :: ds) S') sl S
  | none => .stuck
section
variable {X : Cx} {J : Jd} {Γ : List Bool} {k : Nat} {f : Addr} {fd : FuncData} {ps : List Str} {x m : Str} {p pos apos : Pos} {e o : Expr} {es : List Expr} {Fm : Fn} {ma : Mx (List D)} {mo : Mx D} {lv : Bool}
/-- what a callee may let out is taken, or there is nothing to let out -/
def Lets (X : Cx) (W : WX) : Prop := ∀ σ, PassesAt (L2N.CX X.prog X.w) X σ (WE W σ)
theorem lets {W : WX} (tk : L2N.Takes X W) : Lets X W := fun σ => L2N.passAt tk σ
theorem lets0 : Lets X (fun _ _ _ _ => False) := fun σ pins H s e s' I c => by
  obtain ⟨_, _, _, _, _, _, _, _, _, _, _, _, h⟩ := c
  exact h.elim
theorem spF_D {K : PySem.W.Frag} {σ : L2.St} {H : Hp} {Q : VK} {ds : List D} {vs : List V} {g : Gh} {sl : List (Option D)} {S : Sto} (hlv : lv = true → J.lv = true) (rl : Rel K J.C Γ g sl S σ H) (b : Reps K J.C g.G g.ρ ds vs) (q : PD K J Γ σ sl g H Q (Fm ds S)) : spF K J.C lv false Fm vs H Q (WE J.W σ) :=
  ⟨g.drop, ds, S, drop_no, drop_sto rl.sto, b, PSp.weak hlv (call_D rl q)⟩
theorem spF_N {K : PySem.W.Frag} {σ : L2.St} {H : Hp} {Q : VK} {ds : List D} {vs : List V} {g : Gh} {sl : List (Option D)} {S : Sto} (hlv : lv = true → J.lv = true) (rl : Rel K J.C Γ g sl S σ H) (b : Reps K J.C g.G g.ρ ds vs) (q : PN K J Γ σ sl g H Q (Fm ds S)) : spF K J.C lv true Fm vs H Q (WE J.W σ) :=
  ⟨g.drop, ds, S, drop_no, drop_sto rl.sto, b, PSp.weak hlv (call_N rl q)⟩
theorem call_pe {fresh : Bool} (F : FnOk X.prog X.w X.K X.mg X.base (L2N.CX X.prog X.w) k f fd ps (spF X.K J.C lv fresh Fm)) (hx : Lets X J.W) (hr : Room k X.A) (hm : X.mg x = some (.ref f)) (hk : PySem.W.keepIn X.K (.ref f) = true) (hb : Binds X.K fd ps []) {t : TA} (ha : PA X (e :: es) t)
    (hg : Gl X x := by rfl) (hdb : (x == ("__debug__" : Str)) = false := by decide) (he : starEach (e :: es) X.env = (false, eval e X.env) :: starEach es X.env := by rfl) (hpl : (backTo pos (starEach es X.env)).any (·.1) = false := by rfl) :
    PE X (.Call (.Name x p) (e :: es) [] pos) (tCallS (spF X.K J.C lv fresh Fm) (WE J.W) t) := pe_callS F hr hg hm hk hb hx ha hdb he hpl
theorem sd_call (F : FnOk X.prog X.w X.K X.mg X.base (L2N.CX X.prog X.w) k f fd ps (spF X.K J.C lv false Fm)) (hx : Lets X J.W) (hr : Room k X.A) (hm : X.mg x = some (.ref f)) (hk : PySem.W.keepIn X.K (.ref f) = true) (hb : Binds X.K fd ps []) (ha : SDs X J Γ (e :: es) ma)
    (hlv : lv = true → J.lv = true := by first | exact fun h => h | exact fun _ => rfl | exact fun h => Bool.noConfusion h) (hg : Gl X x := by rfl) (hdb : (x == ("__debug__" : Str)) = false := by decide) (he : starEach (e :: es) X.env = (false, eval e X.env) :: starEach es X.env := by rfl) (hpl : (backTo pos (starEach es X.env)).any (·.1) = false := by rfl) :
    SD X J Γ (.Call (.Name x p) (e :: es) [] pos) (mCall Fm ma) := PE.imp (call_pe F hx hr hm hk hb ha hg hdb he hpl) fun σ H Q q => by
  obtain ⟨g, sl, S, rl, p⟩ := tD_iff.mp q
  exact chDs postD rl p fun g1 H1 ds S1 vs st1 r1 b1 p1 => spF_D hlv r1 b1 p1
theorem sn_call (F : FnOk X.prog X.w X.K X.mg X.base (L2N.CX X.prog X.w) k f fd ps (spF X.K J.C lv true Fm)) (hx : Lets X J.W) (hr : Room k X.A) (hm : X.mg x = some (.ref f)) (hk : PySem.W.keepIn X.K (.ref f) = true) (hb : Binds X.K fd ps []) (ha : SDs X J Γ (e :: es) ma)
    (hlv : lv = true → J.lv = true := by first | exact fun h => h | exact fun _ => rfl | exact fun h => Bool.noConfusion h) (hg : Gl X x := by rfl) (hdb : (x == ("__debug__" : Str)) = false := by decide) (he : starEach (e :: es) X.env = (false, eval e X.env) :: starEach es X.env := by rfl) (hpl : (backTo pos (starEach es X.env)).any (·.1) = false := by rfl) :
    SN X J Γ (.Call (.Name x p) (e :: es) [] pos) (mCall Fm ma) := PE.imp (call_pe F hx hr hm hk hb ha hg hdb he hpl) fun σ H Q q => by
  obtain ⟨g, sl, S, rl, p⟩ := tNw_iff.mp q
  exact chDs postN rl p fun g1 H1 ds S1 vs st1 r1 b1 p1 => spF_N hlv r1 b1 p1
/-- a fresh list that nobody will change -/
theorem sd_of_sn {e : Expr} {m : Mx D} (h : SN X J Γ e m) : SD X J Γ e m := PE.imp h fun σ H Q q => by
  obtain ⟨g, sl, S, rl, p⟩ := tD_iff.mp q
  refine tNw_iff.mpr ⟨g, sl, S, rl, ?_⟩
  cases em : m sl S with
  | stuck => rw [em] at p; exact p
  | err x S' => rw [em] at p; exact p
  | ok d S' =>
    rw [em] at p
    intro g' H' v st r n fr
    obtain ⟨a, rfl, h1, h2, h3⟩ := n
    obtain ⟨u, hu⟩ := h3.there
    have sub : Same g'.G (g'.frz a u).G := fun b w hb => by
      show upd g'.G a u b = some w
      rw [upd_ne (fun z => by rw [z, h2] at hb; cases hb)]; exact hb
    have st2 : Stp (cE J.lv) g H (g'.frz a u) H' := ⟨st.gG.trans sub, st.fr, st.lv, st.ow, st.nw, fun b w hb => by
      by_cases z : b = a
      · exact .inr (.inl (by rw [z]; exact fr a rfl))
      · have hb' : upd g'.G a u b = some w := hb
        rw [upd_ne z] at hb'; exact st.ng b w hb', st.ro⟩
    have so : StoOk X.K J.C (g'.frz a u) H' S' := by
      refine sto_keep r.sto (fun b w hb => ?_) rfl sub (fun b w hb => ⟨?_, (r.sto.fro b w hb).2⟩) fun b w hb _ => ⟨hb, rfl⟩
      · by_cases z : b = a
        · subst z
          have hb' : upd g'.G b u b = some w := hb
          rw [upd_same] at hb'; cases hb'; exact hu
        · have hb' : upd g'.G a u b = some w := hb
          rw [upd_ne z] at hb'; exact r.sub b w hb'
      · show upd g'.G a u b = none
        rw [upd_ne (fun z => by have hb' : g'.own b = some w := hb; rw [z, h1] at hb'; cases hb')]
        exact (r.sto.fro b w hb).1
    have rl2 : Rel X.K J.C Γ (g'.frz a u) sl S' σ H' := ⟨so, r.len, fun i d e q => let ⟨v, z1, z2⟩ := r.slF i d e q; ⟨v, z1, z2.mono sub fun _ _ z => z⟩, fun i d e q =>
      let ⟨p, z1, z2, z3⟩ := r.slO i d e q; ⟨p, z1, z2, z3.mono rfl sub fun _ _ z => z⟩, cau_mono sub (fun _ _ z => z) r.cau⟩
    exact p _ H' _ st2 rl2 (cell_rep (h3.mono rfl sub fun _ _ z => z) (by show upd g'.G a u a = H' a; rw [upd_same, hu]))
/-- what a method wants of the classes -/
structure MethAt (K : PySem.W.Frag) (C : Cfg) (c : Nat) (m : Str) (f : Addr) : Prop where
  cls : Cls K (C.ca c)
  mt : Meth K (C.ca c) m f
  no : m ∉ C.fl c
theorem obj_view {K : PySem.W.Frag} {C : Cfg} {g : Gh} {H : Hp} {S : Sto} {d : D} {u : V} {c : Nat} (s : StoOk K C g H S) (hd : Rep K C g.G g.ρ d u) (e : clsOf S d = some c) : ∃ a dx fs, u = .ref a ∧ H a = some (.ins (C.ca c) dx fs) ∧ ∀ m, m ∉ C.fl c → fs.lookup m = none := by
  unfold clsOf at e
  split at e
  · rename_i c' fs
    cases e
    cases hd with
    | obj hG hr hno => exact ⟨_, _, _, rfl, s.sub _ _ hG, hno⟩
  · rename_i i
    cases hi : S[i]? with
    | none => rw [hi] at e; cases e
    | some ob =>
      rw [hi] at e
      cases e
      obtain ⟨a, dx, fs, h1, h2⟩ := s.ob i ob hi
      cases hd with
      | ref hρ => rw [h1] at hρ; cases hρ; exact ⟨a, dx, fs, rfl, h2.at_, h2.no⟩
  · cases e
end
end Sm
set_option Elab.async false
set_option linter.all false
set_option maxRecDepth 100000
set_option maxHeartbeats 2000000
/-! Sim 14: methods, keywords, classes made. -/
namespace Sm
open PySem PySem.Spec PyProof.Rows L2
section
variable {X : Cx} {W : WX} {k : Nat} {x m : Str} {p pos apos : Pos} {e o : Expr} {es : List Expr} {kws : List Keyword} {ta : TE} {t tk : TA}
/-- keyword arguments: their order, as places in the values -/
def permV (perm : List Nat) (zs : List V) : List V := perm.map fun i => zs.getD i .non
def permU (perm : List Nat) (ws : List Value) : List Value := perm.map fun i => ws.getD i .none
def permD (perm : List Nat) (ds : List D) : List D := perm.map fun i => ds.getD i .non
theorem perm_vals {perm : List Nat} {zs : List V} {ws : List Value} (r : Vals zs ws) : Vals (permV perm zs) (permU perm ws) := by
  induction perm with
  | nil => exact .nil
  | cons i perm ih =>
    refine .cons ?_ ih
    cases e : zs[i]? with
    | none =>
      have e2 : ws[i]? = none := List.getElem?_eq_none (by rw [← r.length]; exact List.getElem?_eq_none_iff.mp e)
      simp only [List.getD_eq_getElem?_getD, e, e2]; rfl
    | some v =>
      obtain ⟨u, hu, ru⟩ := r.get e
      simp only [List.getD_eq_getElem?_getD, e, hu]; exact ru
theorem perm_reps {K : PySem.W.Frag} {C : Cfg} {G : Hp} {ρ : List Addr} {perm : List Nat} {ds : List D} {zs : List V} (r : Reps K C G ρ ds zs) : Reps K C G ρ (permD perm ds) (permV perm zs) := by
  induction perm with
  | nil => exact .nil
  | cons i perm ih =>
    refine .cons ?_ ih
    cases e : ds[i]? with
    | none =>
      have e2 : zs[i]? = none := List.getElem?_eq_none (by rw [← r.length]; exact List.getElem?_eq_none_iff.mp e)
      simp only [List.getD_eq_getElem?_getD, e, e2]; exact .non
    | some v =>
      obtain ⟨u, hu, ru⟩ := r.get e
      simp only [List.getD_eq_getElem?_getD, e, hu]; exact ru
/-- n positional values, then the keywords ks, in the parameters' order by perm -/
def KB (K : PySem.W.Frag) (fd : FuncData) (ps ks : List Str) (n : Nat) (perm : List Nat) : Prop :=
  ∀ (s : Shared) (us ws : List Value), K.In s.heap → us.length = n → ws.length = ks.length → BindsTo s fd ⟨us, ks.zip ws⟩ (ps.zip (us ++ permU perm ws))
theorem Fun.kb {K : PySem.W.Frag} {x qual : Str} {st : Stmt} {f : Addr} {fd : FuncData} {ps ks : List Str} {n : Nat} {perm : List Nat} (F : Fun K x qual st f fd)
    (h : ∀ (kV doc pm : Value) (an : Option Addr) (cdv ct : Value) (us ws : List Value), us.length = n → ws.length = ks.length → bindArgs (PySem.W.fnOf x qual (defArgs st) (defBody st) (defScope st) .none kV doc pm an cdv ct) ⟨us, ks.zip ws⟩ = pure (ps.zip (us ++ permU perm ws))) : KB K fd ps ks n perm := by
  obtain ⟨oc, od, kV, doc, pm, an, cdv, ct, osl, rfl, lk, hcd⟩ := F.ex
  exact fun s us ws _ h1 h2 => .of_eq (h kV doc pm an cdv ct us ws h1 h2)
/-- what is called as o.m: whatever o's class says -/
def tMq (X : Cx) (W : WX) (m : Str) (ta : TE) (t : TA) : TE := fun σ H Q => ta σ H fun x H1 => ∃ (a C dx : Addr) (fs : List (Str × V)) (k : Nat) (f : Addr) (fd : FuncData) (ps : List Str) (sp : Sp),
  x = .ref a ∧ H1 a = some (.ins C dx fs) ∧ Cls X.K C ∧ Meth X.K C m f ∧ fs.lookup m = none ∧ FnOk X.prog X.w X.K X.mg X.base (L2N.CX X.prog X.w) k f fd ps sp ∧ Room k X.A ∧ Binds X.K fd ps [] ∧ t σ H1 fun vs H2 => sp (x :: vs) H2 Q (WE W σ)
theorem pe_mq {pl : Sem Bool} (hx : Lets X W) (he : PE X o ta) (ha : PA X (e :: es) t)
    (hst : starEach (e :: es) X.env = (false, eval e X.env) :: starEach es X.env := by rfl) (hpl : (backTo pos (starEach es X.env)).any (·.1) = false := by rfl)
    (ht : eval (.Call (.Attribute o m apos) (e :: es) [] pos) X.env = (do
      let v ← eval o X.env
      standAt apos.atName
      let (fv, fst) ← holding [v] (getMethod v m pl)
      callWith pos fv fst (backTo pos (starEach (e :: es) X.env)) (backToKw pos (keywordEach [] X.env))) := by rfl) :
    PE X (.Call (.Attribute o m apos) (e :: es) [] pos) (tMq X W m ta t) := by
  refine ⟨fun pins s σ H Q I h => PySem.W.methodCall_KW (pl := pl) (thn (he.run pins s σ H _ I h) fun u s1 hh => ?_) ht⟩
  obtain ⟨_, H1, I1, rx, a, C, dx, fs, k, f, fd, ps, sp, rfl, ea, c, hm, l, F, hr, hb, q⟩ := hh
  obtain rfl : u = Value.ref a := rx
  refine getmeth_ok I1 ea c hm l ?_
  refine PySem.W.callWith_K (first := [.ref a]) (h₀ := X.base) I.ok.mod.kin hm.kp (thn (ha.run pos pins s1 σ H1 _ I1 q) fun us s2 hh => ?_) hst hpl
  obtain ⟨vs, H2, I2, r, q2⟩ := hh
  have r2 : Vals (V.ref a :: vs) (Value.ref a :: us) := .cons rfl r
  exact ⟨I2.kIn, run_any (args := ⟨.ref a :: us, []⟩) F hr (hx σ) I2 (binds_at (F := F) hb I2.kIn r2 q2) r2 q2⟩
theorem pe_mq0 {pl : Sem Bool} (hx : Lets X W) (he : PE X o ta)
    (ht : eval (.Call (.Attribute o m apos) [] [] pos) X.env = (do
      let v ← eval o X.env
      standAt apos.atName
      let (fv, fst) ← holding [v] (getMethod v m pl)
      callWith pos fv fst (backTo pos (starEach [] X.env)) (backToKw pos (keywordEach [] X.env))) := by rfl) :
    PE X (.Call (.Attribute o m apos) [] [] pos) (tMq X W m ta tNil) := by
  refine ⟨fun pins s σ H Q I h => PySem.W.methodCall_KW (pl := pl) (thn (he.run pins s σ H _ I h) fun u s1 hh => ?_) ht⟩
  obtain ⟨_, H1, I1, rx, a, C, dx, fs, k, f, fd, ps, sp, rfl, ea, c, hm, l, F, hr, hb, q⟩ := hh
  obtain rfl : u = Value.ref a := rx
  refine getmeth_ok I1 ea c hm l ?_
  have r2 : Vals [V.ref a] [Value.ref a] := .cons rfl .nil
  exact PySem.W.callWith_K0 (first := [.ref a]) I1.kIn hm.kp (run_any (args := ⟨[.ref a], []⟩) F hr (hx σ) I1 (binds_at (F := F) hb I1.kIn r2 q) r2 q)
/-- o.m(k = .., ..): keywords only -/
def tMqK (X : Cx) (W : WX) (m : Str) (ks : List Str) (perm : List Nat) (ta : TE) (t : TA) : TE := fun σ H Q => ta σ H fun x H1 => ∃ (a C dx : Addr) (fs : List (Str × V)) (k : Nat) (f : Addr) (fd : FuncData) (ps : List Str) (sp : Sp),
  x = .ref a ∧ H1 a = some (.ins C dx fs) ∧ Cls X.K C ∧ Meth X.K C m f ∧ fs.lookup m = none ∧ FnOk X.prog X.w X.K X.mg X.base (L2N.CX X.prog X.w) k f fd ps sp ∧ Room k X.A ∧ KB X.K fd ps ks 1 perm ∧ t σ H1 fun vs H2 => vs.length = ks.length ∧ sp (x :: permV perm vs) H2 Q (WE W σ)
theorem pe_mqK {pl : Sem Bool} {ks : List Str} {perm : List Nat} (hx : Lets X W) (he : PE X o ta) (hkw : PK X kws t)
    (hall : (backToKw pos (keywordEach kws X.env)).all (·.1.isSome) = true := by rfl) (hks : (backToKw pos (keywordEach kws X.env)).filterMap (·.1) = ks := by rfl)
    (hpl : ((backTo pos (starEach [] X.env)).any (·.1) || (backToKw pos (keywordEach kws X.env)).any (·.1.isNone)) = false := by rfl)
    (ht : eval (.Call (.Attribute o m apos) [] kws pos) X.env = (do
      let v ← eval o X.env
      standAt apos.atName
      let (fv, fst) ← holding [v] (getMethod v m pl)
      callWith pos fv fst (backTo pos (starEach [] X.env)) (backToKw pos (keywordEach kws X.env))) := by rfl) :
    PE X (.Call (.Attribute o m apos) [] kws pos) (tMqK X W m ks perm ta t) := by
  refine ⟨fun pins s σ H Q I h => PySem.W.methodCall_KW (pl := pl) (thn (he.run pins s σ H _ I h) fun u s1 hh => ?_) ht⟩
  obtain ⟨_, H1, I1, rx, a, C, dx, fs, k, f, fd, ps, sp, rfl, ea, c, hm, l, F, hr, hb, q⟩ := hh
  obtain rfl : u = Value.ref a := rx
  refine getmeth_ok I1 ea c hm l ?_
  refine PySem.W.callWith_KW0 (first := [.ref a]) (h₀ := X.base) I.ok.mod.kin hm.kp hall (thn (hkw.run pos pins s1 σ H1 _ I1 q) fun ws s2 hh => ?_) hpl
  obtain ⟨zs, H2, I2, r, hz, q2⟩ := hh
  refine ⟨I2.kIn, ?_⟩
  rw [hks]
  exact run_any (args := ⟨[.ref a], ks.zip ws⟩) F hr (hx σ) I2 (hb s2 [.ref a] ws I2.kIn rfl (by rw [← r.length]; exact hz)) (.cons (show RelV (.ref a) (.ref a) from rfl) (perm_vals r)) q2
/-- f(k = .., ..) -/
def tCK (sp : Sp) (W : WX) (ks : List Str) (perm : List Nat) (t : TA) : TE := fun σ H Q => t σ H fun vs H2 => vs.length = ks.length ∧ sp (permV perm vs) H2 Q (WE W σ)
theorem pe_ck {ks ps : List Str} {perm : List Nat} {f : Addr} {fd : FuncData} {sp : Sp} (F : FnOk X.prog X.w X.K X.mg X.base (L2N.CX X.prog X.w) k f fd ps sp) (hx : Lets X W) (hr : Room k X.A) (hm : X.mg x = some (.ref f)) (hk : PySem.W.keepIn X.K (.ref f) = true) (hb : KB X.K fd ps ks 0 perm) (hkw : PK X kws t)
    (hg : Gl X x := by rfl) (hdb : (x == ("__debug__" : Str)) = false := by decide) (hall : (backToKw pos (keywordEach kws X.env)).all (·.1.isSome) = true := by rfl) (hks : (backToKw pos (keywordEach kws X.env)).filterMap (·.1) = ks := by rfl)
    (hpl : ((backTo pos (starEach [] X.env)).any (·.1) || (backToKw pos (keywordEach kws X.env)).any (·.1.isNone)) = false := by rfl) :
    PE X (.Call (.Name x p) [] kws pos) (tCK sp W ks perm t) := by
  refine ⟨fun pins s σ H Q I h => wpAny_Call_Name_kw (ld_glob I hg hm ?_ hdb)⟩
  refine PySem.W.callWith_KW0 (h₀ := X.base) I.ok.mod.kin hk hall (thn (hkw.run pos pins s σ H _ I h) fun ws s2 hh => ?_) hpl
  obtain ⟨zs, H2, I2, r, hz, q2⟩ := hh
  refine ⟨I2.kIn, ?_⟩
  rw [hks]
  exact run_any (args := ⟨[], ks.zip ws⟩) F hr (hx σ) I2 (hb s2 [] ws I2.kIn rfl (by rw [← r.length]; exact hz)) (perm_vals r) q2
/-- C(..): how the values are handed to __init__ -/
theorem run_mk {C f : Addr} {fd : FuncData} {ps : List Str} {sp : Sp} {pins : List (Addr × Obj)} {σ : L2.St} {H : Hp} {s : Shared} {Q : VK} {us ws : List Value} {kw : List (Str × Value)} {vs : List V} (M : Mk X.K C f) (F : FnOk X.prog X.w X.K X.mg X.base (L2N.CX X.prog X.w) k f fd ps sp) (hr : Room (k + 1) X.A)
    (hx : Lets X W) (I : Inv X pins σ H s) (r : Vals vs ws) (hb : ∀ (a : Addr) (s' : Shared), X.K.In s'.heap → (∃ Q E, ∃ H', sp (.ref a :: vs) H' Q E) → BindsTo s' fd ⟨.ref a :: us, kw⟩ (ps.zip (.ref a :: ws)))
    (h : ∀ x dx, H x = none → H dx = none → dx ≠ x → sp (.ref x :: vs) (upd (upd H dx (.own x)) x (.ins C dx [])) (fun v H2 => v = .non ∧ Q (.ref x) H2) (WE W σ)) :
    wpAny (model X.prog X.w) X.A (call (.ref C) us kw) (EP X pins σ Q) X.xe s := by
  have hq := h (s.heap.objs.size + 1) s.heap.objs.size (I.hok.fresh (Nat.le_succ _)) (I.hok.fresh (Nat.le_refl _)) (Nat.ne_of_lt (Nat.lt_succ_self _))
  have J := Inv.made (C := C) I
  have r2 : Vals (V.ref (s.heap.objs.size + 1) :: vs) (Value.ref (s.heap.objs.size + 1) :: ws) := .cons rfl r
  have bb := hb (s.heap.objs.size + 1) _ J.kIn ⟨_, _, _, hq⟩
  refine wpAny_call (make_map (f := f) I.kIn M.makes M.init (beq_iff_eq.mp M.fn) (codeAny_mono (F.run _ X.stack _ _ _ _ _ _ (WE W σ) (hr.make C us kw) (J.env0.make C us kw) bb r2 hq) fun res s2 hz => ?_))
  match res, hz with
  | .error e2, hz => exact hx σ pins _ _ e2 s2 J hz
  | .ok (.ret u), hz =>
    obtain ⟨v, H', J3, rv, rfl, q3⟩ := J.after hz
    exact ⟨rv, ⟨V.ref (s.heap.objs.size + 1), H', J3, rfl, q3⟩⟩
def tMkS (C : Addr) (sp : Sp) (W : WX) (t : TA) : TE := fun σ H Q => t σ H fun vs H1 => ∀ x dx, H1 x = none → H1 dx = none → dx ≠ x →
  sp (.ref x :: vs) (upd (upd H1 dx (.own x)) x (.ins C dx [])) (fun v H2 => v = .non ∧ Q (.ref x) H2) (WE W σ)
theorem pe_mk {C f : Addr} {fd : FuncData} {ps : List Str} {sp : Sp} (M : Mk X.K C f) (F : FnOk X.prog X.w X.K X.mg X.base (L2N.CX X.prog X.w) k f fd ps sp) (hx : Lets X W) (hr : Room (k + 1) X.A) (hm : X.mg x = some (.ref C)) (hb : Binds X.K fd ps []) (ha : PA X (e :: es) t)
    (hg : Gl X x := by rfl) (hdb : (x == ("__debug__" : Str)) = false := by decide) (he : starEach (e :: es) X.env = (false, eval e X.env) :: starEach es X.env := by rfl) (hpl : (backTo pos (starEach es X.env)).any (·.1) = false := by rfl) :
    PE X (.Call (.Name x p) (e :: es) [] pos) (tMkS C sp W t) := by
  refine ⟨fun pins s σ H Q I h => wpAny_Call_Name_kw (ld_glob I hg hm ?_ hdb)⟩
  refine PySem.W.callWith_K (h₀ := X.base) I.ok.mod.kin M.kp (thn (ha.run pos pins s σ H _ I h) fun us s1 hh => ?_) he hpl
  obtain ⟨vs, H1, I1, r, q⟩ := hh
  refine ⟨I1.kIn, run_mk M F hr hx I1 r (fun a s' hk hq => ?_) q⟩
  obtain ⟨Q', E', H', hq⟩ := hq
  have r2 : Vals (V.ref a :: vs) (Value.ref a :: us) := .cons rfl r
  exact binds_at (F := F) hb hk r2 hq
theorem pe_mk0 {C f : Addr} {fd : FuncData} {ps : List Str} {sp : Sp} (M : Mk X.K C f) (F : FnOk X.prog X.w X.K X.mg X.base (L2N.CX X.prog X.w) k f fd ps sp) (hx : Lets X W) (hr : Room (k + 1) X.A) (hm : X.mg x = some (.ref C)) (hb : Binds X.K fd ps [])
    (hg : Gl X x := by rfl) (hdb : (x == ("__debug__" : Str)) = false := by decide) :
    PE X (.Call (.Name x p) [] [] pos) (tMkS C sp W tNil) := by
  refine ⟨fun pins s σ H Q I h => wpAny_Call_Name_kw (ld_glob I hg hm ?_ hdb)⟩
  refine PySem.W.callWith_K0 I.kIn M.kp (run_mk (us := []) (ws := []) M F hr hx I .nil (fun a s' hk hq => ?_) h)
  obtain ⟨Q', E', H', hq⟩ := hq
  have r2 : Vals [V.ref a] [Value.ref a] := .cons rfl .nil
  exact binds_at (F := F) hb hk r2 hq
def tMkK (C : Addr) (sp : Sp) (W : WX) (ks : List Str) (perm : List Nat) (t : TA) : TE := fun σ H Q => t σ H fun vs H1 => vs.length = ks.length ∧ ∀ x dx, H1 x = none → H1 dx = none → dx ≠ x →
  sp (.ref x :: permV perm vs) (upd (upd H1 dx (.own x)) x (.ins C dx [])) (fun v H2 => v = .non ∧ Q (.ref x) H2) (WE W σ)
theorem pe_mkK {C f : Addr} {fd : FuncData} {ps ks : List Str} {perm : List Nat} {sp : Sp} (M : Mk X.K C f) (F : FnOk X.prog X.w X.K X.mg X.base (L2N.CX X.prog X.w) k f fd ps sp) (hx : Lets X W) (hr : Room (k + 1) X.A) (hm : X.mg x = some (.ref C)) (hb : KB X.K fd ps ks 1 perm) (hkw : PK X kws t)
    (hg : Gl X x := by rfl) (hdb : (x == ("__debug__" : Str)) = false := by decide) (hall : (backToKw pos (keywordEach kws X.env)).all (·.1.isSome) = true := by rfl) (hks : (backToKw pos (keywordEach kws X.env)).filterMap (·.1) = ks := by rfl)
    (hpl : ((backTo pos (starEach [] X.env)).any (·.1) || (backToKw pos (keywordEach kws X.env)).any (·.1.isNone)) = false := by rfl) :
    PE X (.Call (.Name x p) [] kws pos) (tMkK C sp W ks perm t) := by
  refine ⟨fun pins s σ H Q I h => wpAny_Call_Name_kw (ld_glob I hg hm ?_ hdb)⟩
  refine PySem.W.callWith_KW0 (h₀ := X.base) I.ok.mod.kin M.kp hall (thn (hkw.run pos pins s σ H _ I h) fun ws s2 hh => ?_) hpl
  obtain ⟨zs, H2, I2, r, hz, q2⟩ := hh
  refine ⟨I2.kIn, ?_⟩
  rw [hks]
  exact run_mk (us := []) (kw := ks.zip ws) M F hr hx I2 (perm_vals r) (fun a s' hk _ => hb s' [.ref a] ws hk rfl (by rw [← r.length]; exact hz)) q2
end
/-- keyword values -/
def SKs (X : Cx) (J : Jd) (Γ : List Bool) (ks : List Keyword) (m : Mx (List D)) : Prop := PK X ks (tDs X.K J Γ m)
theorem PK.imp {X : Cx} {e : List Keyword} {t t' : TA} (h : PK X e t) (k : ∀ σ H Q, t' σ H Q → t σ H Q) : PK X e t' := ⟨fun pos pins s σ H Q I q => h.run pos pins s σ H Q I (k σ H Q q)⟩
section
variable {X : Cx} {J : Jd} {Γ : List Bool} {k : Nat} {f : Addr} {fd : FuncData} {ps ks : List Str} {perm : List Nat} {x m : Str} {p pos apos kpos : Pos} {e o : Expr} {es : List Expr} {kws : List Keyword} {Fm : Fn} {Fs : List (Nat × Fn)} {ma : Mx (List D)} {mo me : Mx D} {lv fresh : Bool} {nm : Option Str}
theorem sks_nil : SKs X J Γ [] mNil := PK.imp pk_nil fun σ H Q q => by
  obtain ⟨g, sl, S, r, p⟩ := tDs_iff.mp q
  exact p g H [] Stp.refl r .nil
theorem sks_cons (he : SD X J Γ e me) (hr : SKs X J Γ kws ma) : SKs X J Γ (⟨nm, e, kpos⟩ :: kws) (mCons me ma) := PK.imp (pk_cons he hr) fun σ H Q q => by
  obtain ⟨g, sl, S, rl, p⟩ := tDs_iff.mp q
  refine chD postDs rl p fun g1 H1 d S1 x st1 r1 b1 p1 => ?_
  refine chDs postDs r1 p1 fun g2 H2 ds S2 xs st2 r2 b2 p2 => ?_
  exact p2 g2 H2 (x :: xs) Stp.refl r2 (.cons (b1.step st2) b2)
/-- a method's promise, told of a class -/
structure MOk (X : Cx) (J : Jd) (fresh : Bool) (m : Str) (c : Nat) (F : Fn) : Prop where
  ex : ∃ (k : Nat) (f : Addr) (fd : FuncData) (ps : List Str) (lv : Bool), MethAt X.K J.C c m f ∧ FnOk X.prog X.w X.K X.mg X.base (L2N.CX X.prog X.w) k f fd ps (spF X.K J.C lv fresh F) ∧ Room k X.A ∧ Binds X.K fd ps [] ∧ (lv = true → J.lv = true)
theorem lookup_none {m : Str} : ∀ {fs : List (Str × V)} {l : List Str}, (∀ n, n ∉ l → fs.lookup n = none) → m ∉ l → fs.lookup m = none := fun h k => h _ k
theorem mth_open {K : PySem.W.Frag} {β : Type} {P : Gh → Hp → Rx D → Prop} {σ : L2.St} {sl : List (Option D)} {g : Gh} {H : Hp} {S : Sto} {d : D} (hP : Post K J Γ σ sl P)
    (p : P g H ((match (clsOf S d).bind fun c => Fs.lookup c with | some F => bindX ma (fun ds _ S' => F (d :: ds) S') sl S | none => .stuck : Rx D))) : ∃ c F, clsOf S d = some c ∧ Fs.lookup c = some F ∧ P g H (bindX ma (fun ds _ S' => F (d :: ds) S') sl S) := by
  cases e : clsOf S d with
  | none => rw [e] at p; exact (hP.stuck _ _ p).elim
  | some c =>
    cases e2 : Fs.lookup c with
    | none => rw [e, Option.bind_some, e2] at p; exact (hP.stuck _ _ p).elim
    | some F => rw [e, Option.bind_some, e2] at p; exact ⟨c, F, rfl, e2, p⟩
theorem sd_meth {pl : Sem Bool} (hx : Lets X J.W) (ho : SD X J Γ o mo) (hM : ∀ c F, Fs.lookup c = some F → MOk X J false m c F) (ha : SDs X J Γ (e :: es) ma)
    (hst : starEach (e :: es) X.env = (false, eval e X.env) :: starEach es X.env := by rfl) (hpl : (backTo pos (starEach es X.env)).any (·.1) = false := by rfl)
    (ht : eval (.Call (.Attribute o m apos) (e :: es) [] pos) X.env = (do
      let v ← eval o X.env
      standAt apos.atName
      let (fv, fst) ← holding [v] (getMethod v m pl)
      callWith pos fv fst (backTo pos (starEach (e :: es) X.env)) (backToKw pos (keywordEach [] X.env))) := by rfl) :
    SD X J Γ (.Call (.Attribute o m apos) (e :: es) [] pos) (mMeth Fs mo ma) := PE.imp (pe_mq hx ho ha hst hpl ht) fun σ H Q q => by
  obtain ⟨g, sl, S, rl, p⟩ := tD_iff.mp q
  refine chD postD rl p fun g1 H1 d S1 x st1 r1 b1 p1 => ?_
  obtain ⟨c, F, h1, h2, p2⟩ := mth_open (β := Unit) postD p1
  obtain ⟨k, f, fd, ps, lv, hc, hF, hr, hb, hlv⟩ := (hM c F h2).ex
  obtain ⟨a, dx, fs, rfl, ea, hno⟩ := obj_view r1.sto b1 h1
  refine ⟨a, _, dx, fs, k, f, fd, ps, _, rfl, ea, hc.cls, hc.mt, hno _ hc.no, hF, hr, hb, ?_⟩
  exact chDs postD r1 p2 fun g2 H2 ds S2 vs st2 r2 b2 p3 => spF_D hlv r2 (.cons (b1.step st2) b2) p3
theorem sn_meth {pl : Sem Bool} (hx : Lets X J.W) (ho : SD X J Γ o mo) (hM : ∀ c F, Fs.lookup c = some F → MOk X J true m c F) (ha : SDs X J Γ (e :: es) ma)
    (hst : starEach (e :: es) X.env = (false, eval e X.env) :: starEach es X.env := by rfl) (hpl : (backTo pos (starEach es X.env)).any (·.1) = false := by rfl)
    (ht : eval (.Call (.Attribute o m apos) (e :: es) [] pos) X.env = (do
      let v ← eval o X.env
      standAt apos.atName
      let (fv, fst) ← holding [v] (getMethod v m pl)
      callWith pos fv fst (backTo pos (starEach (e :: es) X.env)) (backToKw pos (keywordEach [] X.env))) := by rfl) :
    SN X J Γ (.Call (.Attribute o m apos) (e :: es) [] pos) (mMeth Fs mo ma) := PE.imp (pe_mq hx ho ha hst hpl ht) fun σ H Q q => by
  obtain ⟨g, sl, S, rl, p⟩ := tNw_iff.mp q
  refine chD postN rl p fun g1 H1 d S1 x st1 r1 b1 p1 => ?_
  obtain ⟨c, F, h1, h2, p2⟩ := mth_open (β := Unit) postN p1
  obtain ⟨k, f, fd, ps, lv, hc, hF, hr, hb, hlv⟩ := (hM c F h2).ex
  obtain ⟨a, dx, fs, rfl, ea, hno⟩ := obj_view r1.sto b1 h1
  refine ⟨a, _, dx, fs, k, f, fd, ps, _, rfl, ea, hc.cls, hc.mt, hno _ hc.no, hF, hr, hb, ?_⟩
  exact chDs postN r1 p2 fun g2 H2 ds S2 vs st2 r2 b2 p3 => spF_N hlv r2 (.cons (b1.step st2) b2) p3
theorem nil_tNil {K : PySem.W.Frag} {σ : L2.St} {H : Hp} {R : List V → Hp → Prop} (h : R [] H) : tNil σ H R := h
theorem sd_meth0 {pl : Sem Bool} (hx : Lets X J.W) (ho : SD X J Γ o mo) (hM : ∀ c F, Fs.lookup c = some F → MOk X J false m c F)
    (ht : eval (.Call (.Attribute o m apos) [] [] pos) X.env = (do
      let v ← eval o X.env
      standAt apos.atName
      let (fv, fst) ← holding [v] (getMethod v m pl)
      callWith pos fv fst (backTo pos (starEach [] X.env)) (backToKw pos (keywordEach [] X.env))) := by rfl) :
    SD X J Γ (.Call (.Attribute o m apos) [] [] pos) (mMeth Fs mo mNil) := PE.imp (pe_mq0 hx ho ht) fun σ H Q q => by
  obtain ⟨g, sl, S, rl, p⟩ := tD_iff.mp q
  refine chD postD rl p fun g1 H1 d S1 x st1 r1 b1 p1 => ?_
  obtain ⟨c, F, h1, h2, p2⟩ := mth_open (β := Unit) postD p1
  obtain ⟨k, f, fd, ps, lv, hc, hF, hr, hb, hlv⟩ := (hM c F h2).ex
  obtain ⟨a, dx, fs, rfl, ea, hno⟩ := obj_view r1.sto b1 h1
  exact ⟨a, _, dx, fs, k, f, fd, ps, _, rfl, ea, hc.cls, hc.mt, hno _ hc.no, hF, hr, hb, spF_D hlv r1 (.cons b1 .nil) p2⟩
theorem sn_meth0 {pl : Sem Bool} (hx : Lets X J.W) (ho : SD X J Γ o mo) (hM : ∀ c F, Fs.lookup c = some F → MOk X J true m c F)
    (ht : eval (.Call (.Attribute o m apos) [] [] pos) X.env = (do
      let v ← eval o X.env
      standAt apos.atName
      let (fv, fst) ← holding [v] (getMethod v m pl)
      callWith pos fv fst (backTo pos (starEach [] X.env)) (backToKw pos (keywordEach [] X.env))) := by rfl) :
    SN X J Γ (.Call (.Attribute o m apos) [] [] pos) (mMeth Fs mo mNil) := PE.imp (pe_mq0 hx ho ht) fun σ H Q q => by
  obtain ⟨g, sl, S, rl, p⟩ := tNw_iff.mp q
  refine chD postN rl p fun g1 H1 d S1 x st1 r1 b1 p1 => ?_
  obtain ⟨c, F, h1, h2, p2⟩ := mth_open (β := Unit) postN p1
  obtain ⟨k, f, fd, ps, lv, hc, hF, hr, hb, hlv⟩ := (hM c F h2).ex
  obtain ⟨a, dx, fs, rfl, ea, hno⟩ := obj_view r1.sto b1 h1
  exact ⟨a, _, dx, fs, k, f, fd, ps, _, rfl, ea, hc.cls, hc.mt, hno _ hc.no, hF, hr, hb, spF_N hlv r1 (.cons b1 .nil) p2⟩
/-- keywords only: the values in the parameters' order -/
def mPerm (n : Nat) (perm : List Nat) (ma : Mx (List D)) : Mx (List D) := bindX ma fun ds _ S => if ds.length = n then .ok (permD perm ds) S else .stuck
end
end Sm
set_option Elab.async false
set_option linter.all false
set_option maxRecDepth 100000
set_option maxHeartbeats 2000000
/-! Sim 15: keyword calls, objects made, raise. -/
namespace Sm
open PySem PySem.Spec PyProof.Rows L2
section
variable {X : Cx} {J : Jd} {Γ : List Bool} {k : Nat} {f : Addr} {fd : FuncData} {ps ks : List Str} {perm : List Nat} {x m : Str} {p pos apos kpos : Pos} {e o : Expr} {es : List Expr} {kws : List Keyword} {Fm : Fn} {Fs : List (Nat × Fn)} {ma : Mx (List D)} {mo me : Mx D} {lv fresh : Bool} {nm : Option Str}
theorem perm_post {K : PySem.W.Frag} {β : Type} {P : Gh → Hp → Rx β → Prop} {σ : L2.St} {sl : List (Option D)} {g : Gh} {H : Hp} {S : Sto} {n : Nat} {F : List D → Mx β} {R : List V → Hp → Prop} (hP : Post K J Γ σ sl P) (r : Rel K J.C Γ g sl S σ H) (h : P g H (bindX (mPerm n perm ma) F sl S))
    (k : ∀ g1 H1 d S1 x, Stp (cE J.lv) g H g1 H1 → Rel K J.C Γ g1 sl S1 σ H1 → Reps K J.C g1.G g1.ρ d x → d.length = n → P g1 H1 (F (permD perm d) sl S1) → R x H1) : tDs K J Γ ma σ H R := by
  have h2 : P g H (bindX ma (fun ds sl S => if ds.length = n then F (permD perm ds) sl S else .stuck) sl S) := by
    unfold mPerm bindX at h
    unfold bindX
    cases e : ma sl S with
    | ok d S' =>
      rw [e] at h
      by_cases hl : d.length = n
      · simp only [hl, if_true] at h ⊢; exact h
      · simp only [hl, if_false] at h ⊢; exact h
    | err x S' => rw [e] at h; exact h
    | stuck => rw [e] at h; exact h
  refine chDs hP r h2 fun g1 H1 ds S1 vs st1 r1 b1 p1 => ?_
  by_cases hl : ds.length = n
  · rw [if_pos hl] at p1; exact k g1 H1 ds S1 vs st1 r1 b1 hl p1
  · rw [if_neg hl] at p1; exact (hP.stuck _ _ p1).elim
structure MOkK (X : Cx) (J : Jd) (fresh : Bool) (m : Str) (ks : List Str) (perm : List Nat) (c : Nat) (F : Fn) : Prop where
  ex : ∃ (k : Nat) (f : Addr) (fd : FuncData) (ps : List Str) (lv : Bool), MethAt X.K J.C c m f ∧ FnOk X.prog X.w X.K X.mg X.base (L2N.CX X.prog X.w) k f fd ps (spF X.K J.C lv fresh F) ∧ Room k X.A ∧ KB X.K fd ps ks 1 perm ∧ (lv = true → J.lv = true)
theorem sd_methK {pl : Sem Bool} (ks : List Str) (perm : List Nat) (hx : Lets X J.W) (ho : SD X J Γ o mo) (hM : ∀ c F, Fs.lookup c = some F → MOkK X J false m ks perm c F) (hkw : SKs X J Γ kws ma)
    (hall : (backToKw pos (keywordEach kws X.env)).all (·.1.isSome) = true := by rfl) (hks : (backToKw pos (keywordEach kws X.env)).filterMap (·.1) = ks := by rfl)
    (hpl : ((backTo pos (starEach [] X.env)).any (·.1) || (backToKw pos (keywordEach kws X.env)).any (·.1.isNone)) = false := by rfl)
    (ht : eval (.Call (.Attribute o m apos) [] kws pos) X.env = (do
      let v ← eval o X.env
      standAt apos.atName
      let (fv, fst) ← holding [v] (getMethod v m pl)
      callWith pos fv fst (backTo pos (starEach [] X.env)) (backToKw pos (keywordEach kws X.env))) := by rfl) :
    SD X J Γ (.Call (.Attribute o m apos) [] kws pos) (mMeth Fs mo (mPerm ks.length perm ma)) := PE.imp (pe_mqK hx ho hkw hall hks hpl ht) fun σ H Q q => by
  obtain ⟨g, sl, S, rl, p⟩ := tD_iff.mp q
  refine chD postD rl p fun g1 H1 d S1 x st1 r1 b1 p1 => ?_
  obtain ⟨c, F, h1, h2, p2⟩ := mth_open (β := Unit) postD p1
  obtain ⟨k, f, fd, ps, lv, hc, hF, hr, hb, hlv⟩ := (hM c F h2).ex
  obtain ⟨a, dx, fs, rfl, ea, hno⟩ := obj_view r1.sto b1 h1
  refine ⟨a, _, dx, fs, k, f, fd, ps, _, rfl, ea, hc.cls, hc.mt, hno _ hc.no, hF, hr, hb, ?_⟩
  exact perm_post postD r1 p2 fun g2 H2 ds S2 vs st2 r2 b2 hl p3 => ⟨by rw [← b2.length]; exact hl, spF_D hlv r2 (.cons (b1.step st2) (perm_reps b2)) p3⟩
theorem sd_callK (ks : List Str) (perm : List Nat) (F : FnOk X.prog X.w X.K X.mg X.base (L2N.CX X.prog X.w) k f fd ps (spF X.K J.C lv false Fm)) (hx : Lets X J.W) (hr : Room k X.A) (hm : X.mg x = some (.ref f)) (hk : PySem.W.keepIn X.K (.ref f) = true) (hb : KB X.K fd ps ks 0 perm) (hkw : SKs X J Γ kws ma)
    (hlv : lv = true → J.lv = true := by first | exact fun h => h | exact fun _ => rfl | exact fun h => Bool.noConfusion h) (hg : Gl X x := by rfl) (hdb : (x == ("__debug__" : Str)) = false := by decide) (hall : (backToKw pos (keywordEach kws X.env)).all (·.1.isSome) = true := by rfl) (hks : (backToKw pos (keywordEach kws X.env)).filterMap (·.1) = ks := by rfl)
    (hpl : ((backTo pos (starEach [] X.env)).any (·.1) || (backToKw pos (keywordEach kws X.env)).any (·.1.isNone)) = false := by rfl) :
    SD X J Γ (.Call (.Name x p) [] kws pos) (mCall Fm (mPerm ks.length perm ma)) := PE.imp (pe_ck F hx hr hm hk hb hkw hg hdb hall hks hpl) fun σ H Q q => by
  obtain ⟨g, sl, S, rl, p⟩ := tD_iff.mp q
  exact perm_post postD rl p fun g1 H1 ds S1 vs st1 r1 b1 hl p1 => ⟨by rw [← b1.length]; exact hl, spF_D hlv r1 (perm_reps b1) p1⟩

/-! ### C(..) -/
/-- a new object of class c with nf attributes, then __init__ -/
def mkObj (c nf : Nat) (F : Fn) (ds : List D) : Mx D := fun _ S => match F (.ref S.length :: ds) (S ++ [⟨c, List.replicate nf none⟩]) with
  | .ok .non S' => .ok (.ref S.length) S'
  | .err x S' => .err x S'
  | _ => .stuck
def mMk (c nf : Nat) (F : Fn) (ma : Mx (List D)) : Mx D := bindX ma (mkObj c nf F)
def Gh.made (g : Gh) (n : Nat) (x : Addr) : Gh := ⟨g.G, g.ρ ++ [x], fun a => if a = x then some (.obj n) else g.drop.own a⟩
section
variable {K : PySem.W.Frag} {C : Cfg} {g : Gh} {H : Hp} {S : Sto} {a dx : Addr}
theorem made_get {c : Nat} {n : Nat} (hd : dx ≠ a) : (upd (upd H dx (.own a)) a (.ins (C.ca c) dx [])) a = some (.ins (C.ca c) dx []) := upd_same
theorem made_old {c : Nat} {b : Addr} {o : HO} (ha : H a = none) (hdx : H dx = none) (h : H b = some o) : (upd (upd H dx (.own a)) a (.ins (C.ca c) dx [])) b = some o := by
  rw [upd_ne (ne_of_none h ha), upd_ne (ne_of_none h hdx)]; exact h
theorem made_stp {c n : Nat} (ha : H a = none) (hdx : H dx = none) : Stp (cE true) g.drop H (g.made n a) (upd (upd H dx (.own a)) a (.ins (C.ca c) dx [])) where
  gG := Same.refl _
  fr := fun b o h _ => made_old ha hdx h
  lv := fun b h => by
    cases e : H b with
    | none => rfl
    | some o => rw [made_old (C := C) (c := c) ha hdx e] at h; cases h
  ow := fun b w h k => by cases w <;> first | exact absurd rfl ((drop_own h).2 _) | cases k
  nw := fun b w h => by
    by_cases z : b = a
    · exact .inr (by rw [z]; exact ha)
    · have h' : (if b = a then some (Ow.obj n) else g.drop.own b) = some w := h
      rw [if_neg z] at h'; exact .inl h'
  ng := fun _ _ h => .inl h
  ro := fun i b h => by
    have h : g.ρ[i]? = some b := h
    show (g.ρ ++ [a])[i]? = some b
    rw [List.getElem?_append_left (List.getElem?_eq_some_iff.mp h).1]; exact h
theorem made_sto {c : Nat} (s : StoOk K C g H S) (ha : H a = none) (hdx : H dx = none) (hd : dx ≠ a) : StoOk K C (g.made S.length a) (upd (upd H dx (.own a)) a (.ins (C.ca c) dx [])) (S ++ [⟨c, List.replicate (C.fl c).length none⟩]) := by
  have na : ∀ {b w}, g.own b = some w → b ≠ a := fun {b w} h z => by rw [z] at h; exact (s.fro a w h).2 ha
  have own' : ∀ {b w}, g.own b = some w → (∀ i, w ≠ .slot i) → (g.made S.length a).own b = some w := fun {b w} h k => by
    show (if b = a then _ else g.drop.own b) = some w
    rw [if_neg (na h)]; exact drop_own' h k
  have keepH : ∀ {b}, H b ≠ none → (upd (upd H dx (.own a)) a (.ins (C.ca c) dx [])) b = H b := fun {b} h => by
    cases e : H b with
    | none => exact absurd e h
    | some o => exact made_old (C := C) (c := c) ha hdx e
  have hro : ∀ (i : Nat) (b : Addr), g.ρ[i]? = some b → (g.made S.length a).ρ[i]? = some b := (made_stp (C := C) (c := c) (g := g) (n := S.length) ha hdx).ro
  refine ⟨fun b o h => made_old ha hdx (s.sub b o h), fun b w h => ?_, ?_, fun i ob e => ?_⟩
  · by_cases z : b = a
    · subst z
      exact ⟨s.sub.free ha, by rw [upd_same]; exact fun z => by cases z⟩
    · have h' : (if b = a then some (Ow.obj S.length) else g.drop.own b) = some w := h
      rw [if_neg z] at h'
      obtain ⟨h1, h2⟩ := s.fro b w (drop_own h').1
      exact ⟨h1, by rw [keepH h2]; exact h2⟩
  · show (g.ρ ++ [a]).length = _
    rw [List.length_append, List.length_append, s.rlen]; rfl
  · by_cases hi : i < S.length
    · rw [List.getElem?_append_left hi] at e
      obtain ⟨b, bx, fs, h1, h2⟩ := s.ob i ob e
      refine ⟨b, bx, fs, hro _ _ h1, made_old ha hdx h2.at_, own' h2.own (fun _ z => by cases z), h2.len, fun j n od hn ho => ?_, h2.no, h2.few⟩
      have q := h2.fld j n od hn ho
      cases od with
      | none => exact q
      | some d =>
        obtain ⟨v, e1, e2⟩ := q
        refine ⟨v, e1, ?_⟩
        by_cases hw : C.ow ob.c j = true
        · rw [if_pos hw] at e2 ⊢
          obtain ⟨p, rfl, hp, hc⟩ := e2
          exact ⟨p, rfl, own' hp (fun _ z => by cases z), hc.mono (keepH (s.fro p _ hp).2) (Same.refl _) hro⟩
        · rw [if_neg hw] at e2 ⊢
          exact e2.mono (Same.refl _) hro
    · have hz : i = S.length := by
        have := (List.getElem?_eq_some_iff.mp e).1
        rw [List.length_append] at this
        simp at this; omega
      subst hz
      rw [List.getElem?_append_right (Nat.le_refl _), Nat.sub_self] at e
      cases e
      refine ⟨a, dx, [], ?_, upd_same, ?_, by simp, fun j n od hn ho => ?_, fun _ _ => rfl, Nat.zero_le _⟩
      · show (g.ρ ++ [a])[S.length]? = some a
        rw [← s.rlen, List.getElem?_append_right (Nat.le_refl _), Nat.sub_self]; rfl
      · show (if a = a then _ else _) = _; rw [if_pos rfl]
      · rw [List.getElem?_replicate] at ho
        split at ho
        · cases ho; exact rfl
        · cases ho
end
theorem mk_spF {K : PySem.W.Frag} {σ : L2.St} {H : Hp} {Q : VK} {ds : List D} {vs : List V} {g : Gh} {sl : List (Option D)} {S : Sto} {a dx : Addr} {c nf : Nat} (hl : J.lv = true) (hnf : nf = (J.C.fl c).length) (rl : Rel K J.C Γ g sl S σ H) (b : Reps K J.C g.G g.ρ ds vs) (q : PD K J Γ σ sl g H Q (mkObj c nf Fm ds sl S))
    (ha : H a = none) (hdx : H dx = none) (hd : dx ≠ a) : spF K J.C lv false Fm (.ref a :: vs) (upd (upd H dx (.own a)) a (.ins (J.C.ca c) dx [])) (fun v H2 => v = .non ∧ Q (.ref a) H2) (WE J.W σ) := by
  subst hnf
  have st0 : Stp (cE true) g.drop H (g.made S.length a) (upd (upd H dx (.own a)) a (.ins (J.C.ca c) dx [])) := made_stp ha hdx
  refine ⟨g.made S.length a, .ref S.length :: ds, S ++ [⟨c, List.replicate (J.C.fl c).length none⟩], fun b i h => ?_, made_sto rl.sto ha hdx hd, .cons (.ref ?_) (b.mono st0.gG st0.ro), ?_⟩
  · have h' : (if b = a then some (Ow.obj S.length) else g.drop.own b) = some (.slot i) := h
    split at h'
    · cases h'
    · exact drop_no b i h'
  · show (g.ρ ++ [a])[S.length]? = some a
    rw [← rl.sto.rlen, List.getElem?_append_right (Nat.le_refl _), Nat.sub_self]; rfl
  · unfold mkObj at q
    have up : ∀ {g' H'}, Stp (cE lv) (g.made S.length a) (upd (upd H dx (.own a)) a (.ins (J.C.ca c) dx [])) g' H' → Stp (cE J.lv) g.drop H g' H' := fun s => by
      rw [hl]
      refine st0.trans (s.weak fun w z => ?_)
      cases w <;> first | rfl | cases z
    cases e : Fm (.ref S.length :: ds) (S ++ [⟨c, List.replicate (J.C.fl c).length none⟩]) with
    | ok d S' =>
      rw [e] at q
      intro g' H' v ns st so re _
      unfold RepY at re
      rw [if_neg Bool.false_ne_true] at re
      cases d with
      | non =>
        cases re
        refine ⟨rfl, q _ H' _ (back_stp rl.sto (up st)) (rl.step (back_stp rl.sto (up st)) (back_sto rl.sto (up st) so)) (.ref ?_)⟩
        refine st.ro _ _ ?_
        show (g.ρ ++ [a])[S.length]? = some a
        rw [← rl.sto.rlen, List.getElem?_append_right (Nat.le_refl _), Nat.sub_self]; rfl
      | _ => exact False.elim q
    | err x S' =>
      rw [e] at q
      intro g' H' cls dx' ns st so re
      exact q _ H' cls dx' (back_stp rl.sto (up st)) (rl.step (back_stp rl.sto (up st)) (back_sto rl.sto (up st) so)) re
    | stuck => rw [e] at q; exact False.elim q
theorem sd_mk {c nf : Nat} (M : Mk X.K (J.C.ca c) f) (F : FnOk X.prog X.w X.K X.mg X.base (L2N.CX X.prog X.w) k f fd ps (spF X.K J.C lv false Fm)) (hx : Lets X J.W) (hr : Room (k + 1) X.A) (hm : X.mg x = some (.ref (J.C.ca c))) (hb : Binds X.K fd ps []) (ha : SDs X J Γ (e :: es) ma)
    (hl : J.lv = true := by rfl) (hnf : nf = (J.C.fl c).length := by rfl) (hg : Gl X x := by rfl) (hdb : (x == ("__debug__" : Str)) = false := by decide) (he : starEach (e :: es) X.env = (false, eval e X.env) :: starEach es X.env := by rfl) (hpl : (backTo pos (starEach es X.env)).any (·.1) = false := by rfl) :
    SD X J Γ (.Call (.Name x p) (e :: es) [] pos) (mMk c nf Fm ma) := PE.imp (pe_mk M F hx hr hm hb ha hg hdb he hpl) fun σ H Q q => by
  obtain ⟨g, sl, S, rl, p⟩ := tD_iff.mp q
  exact chDs postD rl p fun g1 H1 ds S1 vs st1 r1 b1 p1 a dx h1 h2 h3 => mk_spF hl hnf r1 b1 p1 h1 h2 h3
theorem sd_mk0 {c nf : Nat} (M : Mk X.K (J.C.ca c) f) (F : FnOk X.prog X.w X.K X.mg X.base (L2N.CX X.prog X.w) k f fd ps (spF X.K J.C lv false Fm)) (hx : Lets X J.W) (hr : Room (k + 1) X.A) (hm : X.mg x = some (.ref (J.C.ca c))) (hb : Binds X.K fd ps [])
    (hl : J.lv = true := by rfl) (hnf : nf = (J.C.fl c).length := by rfl) (hg : Gl X x := by rfl) (hdb : (x == ("__debug__" : Str)) = false := by decide) :
    SD X J Γ (.Call (.Name x p) [] [] pos) (mMk c nf Fm mNil) := PE.imp (pe_mk0 M F hx hr hm hb hg hdb) fun σ H Q q => by
  obtain ⟨g, sl, S, rl, p⟩ := tD_iff.mp q
  exact fun a dx h1 h2 h3 => mk_spF hl hnf rl .nil p h1 h2 h3
theorem sd_mkK {c nf : Nat} (ks : List Str) (perm : List Nat) (M : Mk X.K (J.C.ca c) f) (F : FnOk X.prog X.w X.K X.mg X.base (L2N.CX X.prog X.w) k f fd ps (spF X.K J.C lv false Fm)) (hx : Lets X J.W) (hr : Room (k + 1) X.A) (hm : X.mg x = some (.ref (J.C.ca c))) (hb : KB X.K fd ps ks 1 perm) (hkw : SKs X J Γ kws ma)
    (hl : J.lv = true := by rfl) (hnf : nf = (J.C.fl c).length := by rfl) (hg : Gl X x := by rfl) (hdb : (x == ("__debug__" : Str)) = false := by decide) (hall : (backToKw pos (keywordEach kws X.env)).all (·.1.isSome) = true := by rfl) (hks : (backToKw pos (keywordEach kws X.env)).filterMap (·.1) = ks := by rfl)
    (hpl : ((backTo pos (starEach [] X.env)).any (·.1) || (backToKw pos (keywordEach kws X.env)).any (·.1.isNone)) = false := by rfl) :
    SD X J Γ (.Call (.Name x p) [] kws pos) (mMk c nf Fm (mPerm ks.length perm ma)) := PE.imp (pe_mkK M F hx hr hm hb hkw hg hdb hall hks hpl) fun σ H Q q => by
  obtain ⟨g, sl, S, rl, p⟩ := tD_iff.mp q
  exact perm_post postD rl p fun g1 H1 ds S1 vs st1 r1 b1 hl' p1 => ⟨by rw [← b1.length]; exact hl', fun a dx h1 h2 h3 => mk_spF hl hnf r1 (perm_reps b1) p1 h1 h2 h3⟩
end

/-! ### raise -/
def mRaise (c n : Nat) (ms : Mx (List D)) : Ms := bindS ms fun ds sl S => if ds.length = n then .err ⟨c, ds⟩ sl S else .stuck
section
variable {X : Cx} {B : Js} {Γ Γ' : List Bool} {c k : Nat} {x f1 f2 : Str} {a b : Expr} {ma : Mx (List D)} {p pos pos2 : Pos}
theorem raise_run {K : PySem.W.Frag} {g : Gh} {H : Hp} {sl : List (Option D)} {S : Sto} {σ : L2.St} {E : Ends} {ds : List D} {dx : Addr} {fs : List (Str × V)} (rl : Rel K B.J.C Γ g sl S σ H) (hX : leG B.ΓX Γ = true) (q : PSt K B Γ' E g H (.err ⟨c, ds⟩ sl S)) (hd : H dx = none)
    (hr : ∀ G', Same g.G G' → RepF K B.J.C G' g.ρ (B.J.C.xl c) (ds.map some) fs) : B.J.W (.ref (B.J.C.ca c)) (some dx) σ (upd H dx (.xd fs)) := by
  have st : Stp (cE B.J.lv) g H (g.frz dx (.xd fs)) (upd H dx (.xd fs)) := stp_frz hd rl.sub
  exact (PSt.err (σ := σ) (Γ := Γ) (sl := sl) q hX) _ _ _ _ st (rl.step st (sto_frz rl.sto hd)) ⟨rfl, .inr ⟨dx, fs, rfl, upd_same, hr _ st.gG⟩⟩
theorem ss_raise1 (hc : X.calm = true) (tk : L2N.Takes X B.J.W) (T : PySem.EsX.EsT X.prog X.K X.mg (B.J.C.ca c) [f1]) (hi : In1 f1) (gC : X.mg x = some (.ref (B.J.C.ca c))) (kC : PySem.W.keepIn X.K (.ref (B.J.C.ca c)) = true) (rC : Raises X (.ref (B.J.C.ca c))) (hr : Room k X.A) (ha : SDs X B.J Γ [a] ma)
    (hfl : B.J.C.xl c = [f1] := by rfl) (hX : leG B.ΓX Γ = true := by rfl) (hg : Gl X x := by rfl) (hdb : (x == ("__debug__" : Str)) = false := by decide) (he : starEach (a :: []) X.env = (false, eval a X.env) :: starEach [] X.env := by rfl) (hpl : (backTo pos (starEach [] X.env)).any (·.1) = false := by rfl) :
    SS X B Γ Γ' (.Raise (some (.Call (.Name x p) [a] [] pos)) none pos2) (mRaise c 1 ma) := PS.imp (L2N.ps_raise hc tk (pmk1 T hi gC kC rC hr ha hg he hpl hdb)) fun E σ H q => by
  obtain ⟨g, sl, S, rl, p⟩ := tSt_iff.mp q
  refine csDs rl p hX fun g1 H1 ds S1 vs st1 r1 b1 p1 => ?_
  by_cases hl : ds.length = 1
  · rw [if_pos hl] at p1
    match ds, vs, hl, b1 with
    | [d], [v], _, .cons hv .nil =>
      refine ⟨v, rfl, fun dx hdx => raise_run r1 hX p1 hdx fun G' hG => ?_⟩
      rw [hfl]
      exact .some (by simp [List.lookup]) (hv.mono hG fun _ _ z => z) .nil
  · rw [if_neg hl] at p1; exact False.elim p1
theorem ss_raise2 (hc : X.calm = true) (tk : L2N.Takes X B.J.W) (T : PySem.EsX.EsT X.prog X.K X.mg (B.J.C.ca c) [f1, f2]) (hi : In2 f1 f2) (gC : X.mg x = some (.ref (B.J.C.ca c))) (kC : PySem.W.keepIn X.K (.ref (B.J.C.ca c)) = true) (rC : Raises X (.ref (B.J.C.ca c))) (hr : Room k X.A) (ha : SDs X B.J Γ [a, b] ma)
    (hfl : B.J.C.xl c = [f1, f2] := by rfl) (hX : leG B.ΓX Γ = true := by rfl) (hg : Gl X x := by rfl) (hdb : (x == ("__debug__" : Str)) = false := by decide) (he : starEach (a :: [b]) X.env = (false, eval a X.env) :: starEach [b] X.env := by rfl) (hpl : (backTo pos (starEach [b] X.env)).any (·.1) = false := by rfl) :
    SS X B Γ Γ' (.Raise (some (.Call (.Name x p) [a, b] [] pos)) none pos2) (mRaise c 2 ma) := PS.imp (L2N.ps_raise hc tk (pmk2 T hi gC kC rC hr ha hg he hpl hdb)) fun E σ H q => by
  obtain ⟨g, sl, S, rl, p⟩ := tSt_iff.mp q
  refine csDs rl p hX fun g1 H1 ds S1 vs st1 r1 b1 p1 => ?_
  by_cases hl : ds.length = 2
  · rw [if_pos hl] at p1
    match ds, vs, hl, b1 with
    | [d, d2], [v, v2], _, .cons hv (.cons hv2 .nil) =>
      refine ⟨v, v2, rfl, fun dx hdx => raise_run r1 hX p1 hdx fun G' hG => ?_⟩
      rw [hfl]
      have h12 : (f1 == f2) = false := hi.h12
      exact .some (by simp [List.lookup, h12]) (hv.mono hG fun _ _ z => z) (.some (by simp [List.lookup]) (hv2.mono hG fun _ _ z => z) .nil)
  · rw [if_neg hl] at p1; exact False.elim p1
/-- C(), C an own exception class without own __init__ -/
theorem pmk0 {C : Addr} {bmB : List Value} {Bn newId initId : String} (F : ExcBaseFacts Bn newId initId bmB) (q : PySem.W.excIn X.K C bmB newId = true) (gC : X.mg x = some (.ref C)) (kC : PySem.W.keepIn X.K (.ref C) = true) (rC : Raises X (.ref C)) (hg : Gl X x)
    (hdb : (x == ("__debug__" : Str)) = false := by decide) : L2N.PMk X (.Call (.Name x p) [] [] pos) (fun _ H Q => Q (.ref C) none H) := by
  intro pins s σ H Q I h
  refine wpAny_Call_Name_kw (ld_glob I hg gC ?_ hdb)
  refine PySem.W.callWith_K0 I.kIn kC ?_
  show wpAny _ _ (call (.ref C) []) _ _ _
  obtain ⟨bm, N, nm, qn, bs, hdct, sn, sub, ab, col, dd, k0, k1, k2, k3, k5, mN, hC, hN, hni, T⟩ := exc_obj I.kIn q
  refine wpAny_call_exc_subT F T hC hN hni (fun h' e hm => ?_) (by show 0 ≤ sizeLine; omega)
  exact L2N.mk_of I hm rC h (I.hok.gone hm.new)
theorem ss_raise0 {bmB : List Value} {Bn newId initId : String} (hc : X.calm = true) (tk : L2N.Takes X B.J.W) (F : ExcBaseFacts Bn newId initId bmB) (q : PySem.W.excIn X.K (B.J.C.ca c) bmB newId = true) (gC : X.mg x = some (.ref (B.J.C.ca c))) (kC : PySem.W.keepIn X.K (.ref (B.J.C.ca c)) = true) (rC : Raises X (.ref (B.J.C.ca c)))
    (hfl : B.J.C.xl c = [] := by rfl) (hX : leG B.ΓX Γ = true := by rfl) (hg : Gl X x := by rfl) (hdb : (x == ("__debug__" : Str)) = false := by decide) :
    SS X B Γ Γ' (.Raise (some (.Call (.Name x p) [] [] pos)) none pos2) (mRaise c 0 mNil) := PS.imp (L2N.ps_raise hc tk (pmk0 F q gC kC rC hg hdb)) fun E σ H q => by
  obtain ⟨g, sl, S, rl, p⟩ := tSt_iff.mp q
  have p : PSt X.K B Γ' E g H (.err ⟨c, []⟩ sl S) := p
  exact (PSt.err (σ := σ) (Γ := Γ) (sl := sl) p hX) g H _ _ Stp.refl rl ⟨rfl, .inl ⟨rfl, hfl, rfl⟩⟩
/-- C('text'), likewise: what it says is not looked at -/
theorem ss_raiseT {bmB : List Value} {Bn newId initId : String} {m : Str} {j : Nat} {p2 : Pos} (hc : X.calm = true) (tk : L2N.Takes X B.J.W) (F : ExcBaseFacts Bn newId initId bmB) (q : PySem.W.excIn X.K (B.J.C.ca c) bmB newId = true) (gC : X.mg x = some (.ref (B.J.C.ca c))) (kC : PySem.W.keepIn X.K (.ref (B.J.C.ca c)) = true) (rC : Raises X (.ref (B.J.C.ca c)))
    (hfl : B.J.C.xl c = [] := by rfl) (hX : leG B.ΓX Γ = true := by rfl) (hg : Gl X x := by rfl) (hdb : (x == ("__debug__" : Str)) = false := by decide) :
    SS X B Γ Γ' (.Raise (some (.Call (.Name x p) [.Constant (.str m) j p2] [] pos)) none pos2) (mRaise c 0 mNil) := PS.imp (L2N.ps_raise hc tk (L2N.pmk_own F q gC kC rC hg hdb)) fun E σ H q => by
  obtain ⟨g, sl, S, rl, p⟩ := tSt_iff.mp q
  have p : PSt X.K B Γ' E g H (.err ⟨c, []⟩ sl S) := p
  exact (PSt.err (σ := σ) (Γ := Γ) (sl := sl) p hX) g H _ _ Stp.refl rl ⟨rfl, .inl ⟨rfl, hfl, rfl⟩⟩
end
end Sm
set_option Elab.async false
set_option linter.all false
set_option maxRecDepth 100000
set_option maxHeartbeats 2000000
/-! Sim 16: try, suites, hot calls, borrowed arguments. -/
namespace Sm
open PySem PySem.Spec PyProof.Rows L2

/-! ### another caught exception -/
section
variable {K : PySem.W.Frag} {C : Cfg} {G : Hp} {ρ : List Addr} {z : Option Cau}
abbrev Cfg.with_ (C : Cfg) (z : Option Cau) : Cfg := { C with cau := z }
mutual
theorem Rep.w : ∀ {d : D} {v : V}, Rep K C G ρ d v → Rep K (C.with_ z) G ρ d v
  | _, _, .non => .non
  | _, _, .bl b => .bl b
  | _, _, .int i => .int i
  | _, _, .str x => .str x
  | _, _, .lst h r => .lst h (Reps.w r)
  | _, _, .tup h r => .tup h (Reps.w r)
  | _, _, .dK h r => .dK h (RepK.w r)
  | _, _, .dT h r => .dT h (RepT.w r)
  | _, _, .ref h => .ref h
  | _, _, .obj h r q => .obj h (RepF.w r) q
theorem Reps.w : ∀ {ds : List D} {vs : List V}, Reps K C G ρ ds vs → Reps K (C.with_ z) G ρ ds vs
  | _, _, .nil => .nil
  | _, _, .cons h r => .cons (Rep.w h) (Reps.w r)
theorem RepK.w : ∀ {ds : List (Key × D)} {vs : List (Key × V)}, RepK K C G ρ ds vs → RepK K (C.with_ z) G ρ ds vs
  | _, _, .nil => .nil
  | _, _, .cons h r => .cons (Rep.w h) (RepK.w r)
theorem RepT.w : ∀ {ds : List (List Key × D)} {vs : List (List Key × V)}, RepT K C G ρ ds vs → RepT K (C.with_ z) G ρ ds vs
  | _, _, .nil => .nil
  | _, _, .cons h r => .cons (Rep.w h) (RepT.w r)
theorem RepF.w : ∀ {ns : List Str} {ds : List (Option D)} {fs : List (Str × V)}, RepF K C G ρ ns ds fs → RepF K (C.with_ z) G ρ ns ds fs
  | _, _, _, .nil => .nil
  | _, _, _, .none e r => .none e (RepF.w r)
  | _, _, _, .some e h r => .some e (Rep.w h) (RepF.w r)
end
end
section
variable {K : PySem.W.Frag} {C : Cfg} {g : Gh} {H : Hp} {S : Sto} {z : Option Cau} {Γ : List Bool} {sl : List (Option D)} {σ : L2.St}
theorem Cell.w {p : Addr} {d : D} (h : Cell K C g H p d) : Cell K (C.with_ z) g H p d := by
  cases d <;> first | exact False.elim h | (obtain ⟨vs, q, r⟩ := h; exact ⟨vs, q, r.w⟩)
theorem StoOk.w (s : StoOk K C g H S) : StoOk K (C.with_ z) g H S := ⟨s.sub, s.fro, s.rlen, fun i ob e => by
  obtain ⟨a, dx, fs, h1, o⟩ := s.ob i ob e
  refine ⟨a, dx, fs, h1, o.at_, o.own, o.len, fun k n od hn ho => ?_, o.no, o.few⟩
  have q := o.fld k n od hn ho
  cases od with
  | none => exact q
  | some d =>
    obtain ⟨v, e1, e2⟩ := q
    refine ⟨v, e1, ?_⟩
    by_cases hw : C.ow ob.c k = true
    · rw [if_pos hw] at e2 ⊢
      obtain ⟨p, hp, ho, hc⟩ := e2
      exact ⟨p, hp, ho, hc.w⟩
    · rw [if_neg hw] at e2 ⊢
      exact e2.w⟩
theorem RepX.w {x : Exc} {cls : Value} {dx : Option Addr} (h : RepX K C g x cls dx) : RepX K (C.with_ z) g x cls dx := by
  obtain ⟨h1, h2⟩ := h
  refine ⟨h1, h2.imp_right ?_⟩
  rintro ⟨a, fs, e, q, r⟩
  exact ⟨a, fs, e, q, r.w⟩
theorem RepR.w {fresh : Bool} {d : D} {v : V} (h : RepR K C fresh g H d v) : RepR K (C.with_ z) fresh g H d v := by
  unfold RepR at h ⊢
  split
  · rename_i q
    rw [if_pos q] at h
    obtain ⟨p, h1, h2, h3⟩ := h
    exact ⟨p, h1, h2, h3.w⟩
  · rename_i q
    rw [if_neg q] at h
    exact h.w
/-- into a suite whose clause names slot i -/
theorem rel_in {i : Nat} {a : Addr} {cls : Value} {dx : Option Addr} {x : Exc} (r : Rel K C Γ g sl S σ H) (hx : RepX K C g x cls dx) (hi : i < sl.length) : Rel K (C.with_ (some ⟨i, a, cls, dx, x⟩)) Γ g (sl.set i none) S (σ.set i (some (.ref a))) H := by
  have ne : ∀ {j : Nat} {d : D}, (sl.set i none)[j]? = some (some d) → i ≠ j ∧ sl[j]? = some (some d) := fun {j d} e => by
    by_cases z : i = j
    · subst z
      rw [List.getElem?_set_self hi] at e; cases e
    · exact ⟨z, by rwa [List.getElem?_set_ne z] at e⟩
  refine ⟨r.sto.w, by rw [List.length_set, List.length_set]; exact r.len, fun j d e q => ?_, fun j d e q => ?_, fun c e => ?_⟩
  · obtain ⟨z, e⟩ := ne e
    obtain ⟨v, h1, h2⟩ := r.slF j d e q
    exact ⟨v, by rw [List.getElem?_set_ne z]; exact h1, h2.w⟩
  · obtain ⟨z, e⟩ := ne e
    obtain ⟨p, h1, h2, h3⟩ := r.slO j d e q
    exact ⟨p, by rw [List.getElem?_set_ne z]; exact h1, h2, h3.w⟩
  · cases e
    exact ⟨fun _ => List.getElem?_set_self (by rw [← r.len]; exact hi), hx.w⟩
theorem rel_w {Γ : List Bool} (hz : C.cau = none) (r : Rel K C Γ g sl S σ H) : Rel K (C.with_ none) Γ g sl S σ H :=
  ⟨r.sto.w, r.len, fun j d e q => let ⟨v, h1, h2⟩ := r.slF j d e q; ⟨v, h1, h2.w⟩, fun j d e q => let ⟨p, h1, h2, h3⟩ := r.slO j d e q; ⟨p, h1, h2, h3.w⟩, fun c e => by cases e⟩
/-- out of it -/
theorem rel_out {i : Nat} {z : Cau} (hz : C.cau = none) (r : Rel K (C.with_ (some z)) Γ g sl S σ H) : Rel K C Γ g (sl.set i none) S (σ.set i none) H := by
  have hC : (C.with_ (some z)).with_ none = C := by cases C; cases hz; rfl
  have ne : ∀ {j : Nat} {d : D}, (sl.set i none)[j]? = some (some d) → i ≠ j ∧ sl[j]? = some (some d) := fun {j d} e => by
    by_cases z : i = j
    · subst z
      have hi : i < sl.length := by
        have := (List.getElem?_eq_some_iff.mp e).1
        rw [List.length_set] at this; exact this
      rw [List.getElem?_set_self hi] at e; cases e
    · exact ⟨z, by rwa [List.getElem?_set_ne z] at e⟩
  have back : Rel K ((C.with_ (some z)).with_ none) Γ g (sl.set i none) S (σ.set i none) H := by
    refine ⟨r.sto.w, by rw [List.length_set, List.length_set]; exact r.len, fun j d e q => ?_, fun j d e q => ?_, fun c e => by cases e⟩
    · obtain ⟨z, e⟩ := ne e
      obtain ⟨v, h1, h2⟩ := r.slF j d e q
      exact ⟨v, by rw [List.getElem?_set_ne z]; exact h1, h2.w⟩
    · obtain ⟨z, e⟩ := ne e
      obtain ⟨p, h1, h2, h3⟩ := r.slO j d e q
      exact ⟨p, by rw [List.getElem?_set_ne z]; exact h1, h2, h3.w⟩
  rwa [hC] at back
theorem rel_out0 (hz : C.cau = none) (r : Rel K (C.with_ none) Γ g sl S σ H) : Rel K C Γ g sl S σ H := by
  have hC : C.with_ none = C := by cases C; cases hz; rfl
  rwa [hC] at r
theorem sto_out {z : Option Cau} (hz : C.cau = none) (s : StoOk K (C.with_ z) g H S) : StoOk K C g H S := by
  have hC : (C.with_ z).with_ none = C := by cases C; cases hz; rfl
  have b := s.w (z := none)
  rwa [hC] at b
theorem repR_out {z : Option Cau} {fresh : Bool} {d : D} {v : V} (hz : C.cau = none) (s : RepR K (C.with_ z) fresh g H d v) : RepR K C fresh g H d v := by
  have hC : (C.with_ z).with_ none = C := by cases C; cases hz; rfl
  have b := RepR.w (z := none) s
  rwa [hC] at b
end

/-! ### try -/
/-- a clause: its class, which errors are its, its name's slot, its suite -/
structure Cl where
  ok : List (Nat × Bool)
  oi : Option Nat
  mh : Exc → Ms
def unset (oi : Option Nat) (sl : List (Option D)) : List (Option D) := match oi with
  | some i => sl.set i none
  | none => sl
/-- a suite's end -/
def suEnd (oi : Option Nat) : Rs → Rs
  | .next sl S => .next (unset oi sl) S
  | .brk sl S => .brk (unset oi sl) S
  | .cont sl S => .cont (unset oi sl) S
  | .ret d S => .ret d S
  | _ => .stuck
def mHd : List Cl → Exc → Ms
  | [], x => fun sl S => .err x sl S
  | c :: r, x => fun sl S => match c.ok.lookup x.c with
    | some true => if c.oi.all (fun i => decide (i < sl.length)) = true then suEnd c.oi (c.mh x (unset c.oi sl) S) else .stuck
    | some false => mHd r x sl S
    | none => .stuck
def mTry (mb : Ms) (cs : List Cl) : Ms := fun sl S => match mb sl S with
  | .err x sl' S' => mHd cs x sl' S'
  | r => r
abbrev suB (B : Js) (z : Option Cau) : Js := ⟨⟨B.J.C.with_ z, fun _ _ _ _ => False, B.J.lv⟩, [], B.ΓL, B.fresh⟩
def tSu (K : PySem.W.Frag) (B : Js) (Γh Γ' : List Bool) (oi : Option Nat) (mh : Exc → Ms) (a : Addr) (cls : Value) (d : Option Addr) : TS := fun E σ H =>
  ∃ x, tSt K (suB B (oi.map fun i => ⟨i, a, cls, d, x⟩)) Γh Γ' (mh x) E σ H
def Cl.to (K : PySem.W.Frag) (B : Js) (Γh Γ' : List Bool) (cv : Value) (c : Cl) : Clause := (cv, c.oi, tSu K B Γh Γ' c.oi c.mh)
section
variable {X : Cx} {B : Js} {Γ Γ' Γh : List Bool}
theorem su_pss {su : List Stmt} {oi : Option Nat} {mh : Exc → Ms} {a : Addr} {cls : Value} {d : Option Addr} (h : ∀ x, SSs X (suB B (oi.map fun i => ⟨i, a, cls, d, x⟩)) Γh Γ' su (mh x)) : PSs X su (tSu X.K B Γh Γ' oi mh a cls d) :=
  ⟨fun pins s σ H Q I ⟨x, q⟩ => (h x).run pins s σ H Q I q⟩
def OkT (K : PySem.W.Frag) (C : Cfg) (cv : Value) (ok : List (Nat × Bool)) : Prop := ∀ i b, ok.lookup i = some b → PySem.W.exmOne K (.ref (C.ca i)) cv = some b
inductive OkTs (K : PySem.W.Frag) (C : Cfg) : List Value → List Cl → Prop
  | nil : OkTs K C [] []
  | cons {cv : Value} {c : Cl} {cvs : List Value} {cs : List Cl} (h : OkT K C cv c.ok) (r : OkTs K C cvs cs) : OkTs K C (cv :: cvs) (c :: cs)
theorem try_go {K : PySem.W.Frag} {E : Ends} {g0 : Gh} {H0 : Hp} (hca : B.J.C.cau = none) (hXh : leG B.ΓX Γh = true) {x : Exc} {cls : Value} {dx : Option Addr} {sl : List (Option D)} {S : Sto} {σ : L2.St} {g : Gh} {H : Hp} (st : Stp (cS B.J.lv) g0 H0 g H) (rl : Rel K B.J.C Γh g sl S σ H) (hx : RepX K B.J.C g x cls dx) :
    ∀ {cvs : List Value} {cs : List Cl}, OkTs K B.J.C cvs cs → PSt K B Γ' E g0 H0 (mHd cs x sl S) → wMix K B.J.W E (List.zipWith (Cl.to K B Γh Γ') cvs cs) cls dx σ H
  | _, _, .nil, p => by
    have st2 := let_stp (Γ1 := B.ΓX) (lv := B.J.lv) rl.sto
    exact p _ H σ cls dx (st.trans st2) (rel_let rl hXh) (hx.step st2)
  | cv :: cvs, c :: cs, .cons hok1 hok, p => by
    unfold mHd at p
    cases e : c.ok.lookup x.c with
    | none => rw [e] at p; exact False.elim p
    | some b =>
      rw [e] at p
      have h1 := hok1 x.c b e
      rw [← hx.1] at h1
      refine ⟨b, h1, fun hb a ha => ?_, fun hb => ?_⟩
      · subst hb
        have p : PSt K B Γ' E g0 H0 (if c.oi.all (fun i => decide (i < sl.length)) = true then suEnd c.oi (c.mh x (unset c.oi sl) S) else .stuck) := p
        by_cases hl : c.oi.all (fun i => decide (i < sl.length)) = true
        rotate_left
        · rw [if_neg hl] at p; exact False.elim p
        rw [if_pos hl] at p
        obtain ⟨ok, oi, mh⟩ := c
        cases oi with
        | none =>
          show tSu K B Γh Γ' none mh a cls dx E σ H
          refine ⟨x, tSt_iff.mpr ⟨g, sl, S, rel_w hca rl, ?_⟩⟩
          have p := PSt.step st p
          show PSt K (suB B none) Γ' E g H (mh x sl S)
          have p : PSt K B Γ' E g H (suEnd none (mh x sl S)) := p
          cases em : mh x sl S with
          | next sl2 S2 => rw [em] at p; exact fun g' H' σ' s r => p g' H' σ' s (rel_out0 hca r)
          | ret d S2 => rw [em] at p; exact fun g' H' v s so re => p g' H' v s (sto_out hca so) (repR_out hca re)
          | brk sl2 S2 => rw [em] at p; exact fun g' H' σ' s r => p g' H' σ' s (rel_out0 hca r)
          | cont sl2 S2 => rw [em] at p; exact fun g' H' σ' s r => p g' H' σ' s (rel_out0 hca r)
          | err y sl2 S2 => rw [em] at p; exact False.elim p
          | stuck => rw [em] at p; exact False.elim p
        | some i =>
          show tSu K B Γh Γ' (some i) mh a cls dx (endsAs E i) (σ.set i (some (.ref a))) H
          have p := PSt.step st p
          have p : PSt K B Γ' E g H (suEnd (some i) (mh x (sl.set i none) S)) := p
          have hi : i < sl.length := by simpa using hl
          · refine ⟨x, tSt_iff.mpr ⟨g, sl.set i none, S, rel_in rl hx hi, ?_⟩⟩
            show PSt K (suB B (some ⟨i, a, cls, dx, x⟩)) Γ' (endsAs E i) g H (mh x (sl.set i none) S)
            cases em : mh x (sl.set i none) S with
            | next sl2 S2 => rw [em] at p; exact fun g' H' σ' s r => p g' H' _ s (rel_out hca r)
            | ret d S2 => rw [em] at p; exact fun g' H' v s so re => p g' H' v s (sto_out hca so) (repR_out hca re)
            | brk sl2 S2 => rw [em] at p; exact fun g' H' σ' s r => p g' H' _ s (rel_out hca r)
            | cont sl2 S2 => rw [em] at p; exact fun g' H' σ' s r => p g' H' _ s (rel_out hca r)
            | err y sl2 S2 => rw [em] at p; exact False.elim p
            | stuck => rw [em] at p; exact False.elim p
      · subst hb
        exact try_go hca hXh st rl hx hok p
theorem ss_try {body : List Stmt} {h₀ : ExceptHandler} {hds : List ExceptHandler} {cvs : List Value} {cs : List Cl} {pos : Pos} {mb : Ms} (tk : L2N.Takes X B.J.W)
    (hb : ∀ (W : WX) (pn : List (Addr × Obj)) (xe : Value → Shared → Prop), L2N.Takes (X.tr pn xe) W → PassesOwn (model X.prog X.w) X.A X.env xe → SSs (X.tr pn xe) ⟨⟨B.J.C, W, B.J.lv⟩, Γh, B.ΓL, B.fresh⟩ Γ Γ' body mb)
    (hh : HMix X (h₀ :: hds) (List.zipWith (Cl.to X.K B Γh Γ') cvs cs)) (hok : OkTs X.K B.J.C cvs cs) (hXh : leG B.ΓX Γh = true := by rfl) (hca : B.J.C.cau = none := by rfl) (hs : X.stack = X.env :: X.outer := by rfl) (hf : X.env.frame = some X.env.locals := by rfl) :
    SS X B Γ Γ' (.Try body (h₀ :: hds) [] [] pos) (mTry mb cs) := PS.imp (ps_try_mix (tb := fun W => tSt X.K ⟨⟨B.J.C, W, B.J.lv⟩, Γh, B.ΓL, B.fresh⟩ Γ Γ' mb) hs hf tk hb hh) fun E σ H q => by
  obtain ⟨g, sl, S, rl, p⟩ := tSt_iff.mp q
  refine tSt_iff.mpr ⟨g, sl, S, rl, ?_⟩
  unfold mTry at p
  cases e : mb sl S with
  | next sl2 S2 => rw [e] at p; exact p
  | ret d S2 => rw [e] at p; exact p
  | brk sl2 S2 => rw [e] at p; exact p
  | cont sl2 S2 => rw [e] at p; exact p
  | stuck => rw [e] at p; exact p
  | err x sl2 S2 =>
    rw [e] at p
    exact fun g' H' σ' cls dx st r hx => try_go hca hXh st r hx hok p
theorem ss_stuck {st : Stmt} : SS X B Γ Γ' st (fun _ _ => .stuck) := ⟨fun pins s σ H Q I q => by obtain ⟨g, sl, S, rl, p⟩ := tSt_iff.mp q; exact p.elim⟩
theorem sd_stuck {e : Expr} {J : Jd} : SD X J Γ e (fun _ _ => .stuck) := ⟨fun pins s σ H Q I q => by obtain ⟨g, sl, S, rl, p⟩ := tD_iff.mp q; exact p.elim⟩
end

/-! ### what a suite says of its exception -/
/-- e.f: cs tells the place by the class -/
def mXf (i : Nat) (cs : List (Nat × Nat)) (x : Exc) : Mx D := fun sl S => match sl[i]? with
  | some none => match cs.lookup x.c with
    | some k => match x.fs[k]? with
      | some d => .ok d S
      | none => .stuck
    | none => .stuck
  | _ => .stuck
structure XfAt (K : PySem.W.Frag) (C : Cfg) (f : Str) (cs : List (Nat × Nat)) : Prop where
  at_ : ∀ c k, cs.lookup c = some k → (C.xl c)[k]? = some f ∧ XfC K (C.ca c) ∧ PySem.W.findIn K (.ref (C.ca c)) f = some none
theorem sd_xf {X : Cx} {J : Jd} {Γ : List Bool} {i : Nat} {a : Addr} {oe : Obj} {cls : Value} {d : Option Addr} {pn : List (Addr × Obj)} {x : Exc} {y f : Str} {p pos : Pos} (cs : List (Nat × Nat)) (hc : J.C.cau = some ⟨i, a, cls, d, x⟩) (T : XfAt X.K J.C f cs) (hz : Zc cls d oe) (hf : ∃ vs, oe.data = .fields vs)
    (hN : X.N[i]? = some y := by rfl) (hv : Vis X.env.scope y := by first | exact Or.inl rfl | exact Or.inr (Or.inl rfl) | exact Or.inr (Or.inr rfl)) (hd : (y == ("__debug__" : Str)) = false := by decide) (hcd : (y == ("__classdict__" : Str)) = false := by decide)
    (hb : attributeBase (.Name y p) f X.env (eval (.Name y p) X.env) = eval (.Name y p) X.env := by rfl) : SD (X.suite a ((a, oe) :: pn)) J Γ (.Attribute (.Name y p) f pos) (mXf i cs x) := by
  cases hl : cs.lookup x.c with
  | none =>
    refine PE.imp (sd_stuck (J := J) (Γ := Γ)) fun σ H Q q => ?_
    obtain ⟨g, sl, S, rl, p⟩ := tD_iff.mp q
    refine tD_iff.mpr ⟨g, sl, S, rl, ?_⟩
    unfold mXf at p
    rw [hl] at p
    split at p
    · exact p
    · exact p
  | some k =>
    obtain ⟨h1, h2, h3⟩ := T.at_ _ _ hl
    refine PE.imp (pe_xf (X := X) (C := J.C.ca x.c) h2 h3 hz hf (pe_var (X := X.suite a ((a, oe) :: pn)) hN hv hd hcd) hb) fun σ H Q q => ?_
    obtain ⟨g, sl, S, rl, p⟩ := tD_iff.mp q
    unfold mXf at p
    rw [hl] at p
    obtain ⟨c1, c2⟩ := rl.cau _ hc
    split at p
    · rename_i e
      have p : PD X.K J Γ σ sl g H Q (match x.fs[k]? with | some d => .ok d S | none => .stuck) := p
      cases ek : x.fs[k]? with
      | none => rw [ek] at p; exact False.elim p
      | some v =>
        rw [ek] at p
        refine ⟨_, c1 e, rfl, c2.1, ?_⟩
        rcases c2.2 with ⟨z1, _, _⟩ | ⟨dd, fs, z1, z2, z3⟩
        · have z1 : x.fs = [] := z1
          rw [z1] at ek; simp at ek
        · obtain ⟨u, u1, u2⟩ := repF_at z3 h1 (show (x.fs.map some)[k]? = some (some v) by rw [List.getElem?_map, ek]; rfl)
          exact ⟨dd, fs, u, z1, rl.sub _ _ z2, u1, PD.now p rl u2⟩
    · exact False.elim p
end Sm
namespace PySem.W
open PySem PySem.Spec PySem.Calls PyProof.Rows
section
variable {prog : Program} {w : World} {A : Around} {E : Value → Shared → Prop} {s : Shared} {K : Frag} {x Cc : Addr} {ox : Obj} {dob : Option Obj}
/-- a data descriptor of the class comes before the instance's own dict -/
theorem sm_descr {n : Str} {a gt : Value} (hc : (clsIn K Cc).isSome = true) (ha : findIn K (.ref Cc) n = some (some a)) (hg : specialIn K a "__get__" = some (some gt)) (ht : takesIn K a = some true) : findObj K Cc dob n = some (.bind gt a) := by
  cases e : clsIn K Cc with
  | none => rw [e] at hc; cases hc
  | some cd =>
    unfold findObj
    rw [e, Option.bind_some, ha, Option.bind_some]
    simp [hg, ht]
theorem sm_class {Q : Option Value → Shared → Prop} (T : L2.ExcC K Cc) (X : K.In s.heap) (I : InstAt s.heap x ox Cc dob) (h : Q (some (.ref Cc)) { s with toks := s.toks + 1 }) : wpAny (model prog w) A (getAttr? (.ref x) "__class__") Q E s := by
  have fo : findObj K Cc dob "__class__" = some (.bind (.builtin "getset_descriptor.__get__") (.builtin "object.__class__")) := by
    obtain ⟨cd, hc, _⟩ := any_some T.hd
    exact sm_descr (by rw [hc]; rfl) T.ha T.hn T.ht
  obtain ⟨H0, g0, dr0, t0, os0⟩ := s
  have e2 : (Value.builtin "BaseException.__getattribute__" == Value.builtin "object.__getattribute__") = false := by decide +kernel
  have e1 : (onTheHeap (Value.ref Cc) && Value.builtin "BaseException.__getattribute__" == Value.builtin "object.__getattribute__") = false := by rw [e2]; rfl
  have e0 : (false && onTheHeap (Value.builtin "BaseException.__getattribute__")) = false := rfl
  have k1 := I.type (M := model prog w)
  have k2 := looks_findIn (M := model prog w) X T.hg
  have k3 := looks_findIn (M := model prog w) X T.hk
  have k4 := looks_find (M := model prog w) X I fo
  have k5 : Looks (model prog w) H0 (isInstance (.ref x) (.type "BaseException")) true := k1.andThen (looks_subIn X T.hs)
  unfold getAttr? getAttrBy? getAttrBy
  refine wpAny_bind (wpAny_mkText (wpAny_bind (wpAny_attempt (wpAny_holding (wpAny_bind (k1.at (wpAny_bind (k2.at ?_))))))))
  show wpAny _ _ (if (onTheHeap (Value.ref Cc) && Value.builtin "BaseException.__getattribute__" == Value.builtin "object.__getattribute__") = true then _ else _) _ _ _
  rw [e1, if_neg Bool.false_ne_true]
  unfold getAttrByItsOwn hookBefore
  refine wpAny_bind ?_
  rw [if_pos (show onTheHeap (Value.ref Cc) = true from rfl)]
  refine k3.at (wpAny_bind (wpAny_attempt (wpAny_holding ?_)))
  unfold callGetattribute
  rw [e0, if_neg Bool.false_ne_true]
  unfold boundAndCalled
  rw [PySem.F.excAttr_ValueError.ga.bind (.ref x)]
  refine wpAny_bind (wpAny_pure ?_)
  show wpAny _ _ (call (.builtin "BaseException.__getattribute__") [.ref x, .str "__class__" t0]) _ _ _
  refine wpAny_call (codeAny_call_builtin PySem.F.excAttr_ValueError.ga.plain PySem.F.entry_bexc_ga (@check_slot (model prog w) _ _ ⟨H0, g0, dr0, t0 + 1, os0⟩ "BaseException.__getattribute__" "BaseException" "__getattribute__" (.ref x) [.str "__class__" t0] [] _ (by decide +kernel) (by decide +kernel) k5 (PySem.F.args_bexc_ga (.ref x) (.str "__class__" t0)) ?_))
  unfold Builtin.«object.__getattribute__»
  refine wpAny_bind (wpAny_of_eq (a := ((Value.ref x : Value), [Value.str "__class__" t0])) (by first | rfl | (simp only [slotArgs]; rfl)) (wpAny_bind (wpAny_pure (wpAny_bind (k1.at (wpAny_bind (k4.at ?_)))))))
  show wpAny _ _ (holding [Value.builtin "object.__class__"] (call (.builtin "getset_descriptor.__get__") [.builtin "object.__class__", .ref x, .ref Cc]) >>= ret) _ _ _
  refine wpAny_bind (wpAny_holding (wpAny_call (class_get (s := ⟨H0, g0, dr0, t0 + 1, os0⟩) (ox := ox) (od := dob) X I T.hm (wpAny_pure ?_))))
  show wpAny _ _ (handedOut (.ref Cc)) _ _ _
  rw [handedOut_of (v := .ref Cc) rfl]
  first
    | exact wpAny_pure (wpAny_pure h)
    | exact wpAny_pure h
    | exact wpAny_pure (wpAny_bind (wpAny_pure (wpAny_pure h)))
theorem sm_cls (T : L2.ExcC K Cc) : ∃ c d cd sl, K.lookup Cc = some ⟨c, d, .cls cd, sl⟩ := by
  obtain ⟨cd0, hc0, _⟩ := any_some T.hd
  unfold clsIn at hc0
  split at hc0
  · rename_i c d cd sl e
    exact ⟨c, d, cd, sl, e⟩
  · cases hc0
theorem sm_kit (T : L2.ExcC K Cc) : KitX K (.ref x) (.ref Cc) (fun h => InstAt h x ox Cc dob) where
  ty := fun _ _ _ I => I.type
  it := fun _ _ X _ => by
    obtain ⟨c, d, cd, sl, e⟩ := sm_cls T
    intro A0 Q0 E0 s0 k0 q0
    unfold isType loadHead
    exact wpAny_bind (wpAny_loadPart (k0 _ _ (X _ _ e)) (wpAny_pure q0))
  ne := fun h tp dd its n sl X htp => by
    obtain ⟨c, d, cd, sl2, e⟩ := sm_cls T
    cases z : (Value.ref Cc == Value.ref tp) with
    | false => rfl
    | true =>
      cases Value.ref.inj (beq_iff_eq.mp z)
      have w := (X _ _ e).symm.trans htp
      cases w
  ca := fun X I k => sm_class T X I k
end
end PySem.W
namespace Sm
open PySem PySem.Spec PyProof.Rows L2
/-- isinstance(e, c), e the exception that the suite holds: its dict may be there -/
def rIsX (K : PySem.W.Frag) (D0 a : Addr) (d : Option Addr) : List V → Hp → VK → Prop := fun xs H Q => ∃ (c : V) (cv : Value) (b : Bool), xs = [.ref a, c] ∧ (∀ u, RelV c u → u = cv) ∧ PySem.W.kitOne K (.ref D0) cv = some b ∧ (∀ dd, d = some dd → ∃ fs, H dd = some (.xd fs)) ∧ Q (.bl b) H
theorem call_isX {X : Cx} {a D0 : Addr} {d : Option Addr} {oe : Obj} {pn : List (Addr × Obj)} (T : ExcC X.K D0) (hz : Zc (.ref D0) d oe) (hf : ∃ vs, oe.data = .fields vs) : CallR (X.suite a ((a, oe) :: pn)) (.builtin "isinstance") (rIsX X.K D0 a d) := by
  intro pins s σ H xs us Q I r h
  obtain ⟨c, cv, b, rfl, hcv, e, hd, q⟩ := h
  obtain ⟨u1, u2, rfl, r1, r2⟩ := vals2 r
  obtain rfl : u1 = Value.ref a := r1
  obtain rfl := hcv _ r2
  obtain ⟨hget, _⟩ := I.pin (a, oe) (List.mem_append.mpr (.inl List.mem_cons_self))
  obtain ⟨vs, hv⟩ := hf
  have J : ∃ od, PySem.W.InstAt s.heap a oe D0 od := by
    cases d with
    | none =>
      obtain ⟨oc, od, oda, osl⟩ := oe
      obtain ⟨h1, h2⟩ := hz
      dsimp only at h1 h2 hv
      subst h1 h2 hv
      exact ⟨none, hget, rfl, rfl, trivial⟩
    | some dd =>
      obtain ⟨fs, ed⟩ := hd dd rfl
      have ob : ObjOk X.prog X.w H s.heap dd (.xd fs) := I.hok dd _ ed
      obtain ⟨mA, hns, _⟩ := ob
      obtain ⟨od, ho, _⟩ := lookIn_ns hns
      exact ⟨some od, hget, hz.1, by unfold PySem.W.notCls; rw [hv] <;> rfl, by rw [hz.2]; exact ho⟩
  obtain ⟨od, J⟩ := J
  exact PySem.W.kia_one (PySem.W.sm_kit T) I.kIn J e (fun z => nomatch z) fun tk => ⟨.bl b, H, I.kept (t' := tk) fun _ _ z => z, rfl, q⟩
/-- isinstance(e, C): tb tells it by the class -/
def mIsX (i : Nat) (tb : List (Nat × Bool)) (x : Exc) : Mx D := fun sl S => match sl[i]? with
  | some none => match tb.lookup x.c with
    | some b => .ok (.bl b) S
    | none => .stuck
  | _ => .stuck
def IsAt (K : PySem.W.Frag) (C : Cfg) (cv : Value) (tb : List (Nat × Bool)) : Prop := ∀ c b, tb.lookup c = some b → ExcC K (C.ca c) ∧ PySem.W.kitOne K (.ref (C.ca c)) cv = some b
theorem sd_isx {X : Cx} {J : Jd} {Γ : List Bool} {i : Nat} {a : Addr} {oe : Obj} {cls cv : Value} {d : Option Addr} {pn : List (Addr × Obj)} {x : Exc} {y n : Str} {cvV : V} {p p2 p3 pos : Pos} (tb : List (Nat × Bool)) (hc : J.C.cau = some ⟨i, a, cls, d, x⟩) (T : IsAt X.K J.C cv tb) (hz : Zc cls d oe) (hf : ∃ vs, oe.data = .fields vs)
    (hm : X.mg "isinstance" = none) (hg : Gl X "isinstance") (hcls : PE (X.suite a ((a, oe) :: pn)) (.Name n p2) (tC cvV)) (hcv : ∀ u, RelV cvV u → u = cv)
    (hN : X.N[i]? = some y := by rfl) (hv : Vis X.env.scope y := by first | exact Or.inl rfl | exact Or.inr (Or.inl rfl) | exact Or.inr (Or.inr rfl)) (hd : (y == ("__debug__" : Str)) = false := by decide) (hcd : (y == ("__classdict__" : Str)) = false := by decide)
    (he : starEach [.Name y p3, .Name n p2] X.env = (false, eval (.Name y p3) X.env) :: starEach [.Name n p2] X.env := by rfl) (he2 : starEach [.Name n p2] X.env = (false, eval (.Name n p2) X.env) :: starEach [] X.env := by rfl) (hpl : (backTo pos (starEach [.Name n p2] X.env)).any (·.1) = false := by rfl) :
    SD (X.suite a ((a, oe) :: pn)) J Γ (.Call (.Name "isinstance" p) [.Name y p3, .Name n p2] [] pos) (mIsX i tb x) := by
  cases hl : tb.lookup x.c with
  | none =>
    refine PE.imp (sd_stuck (J := J) (Γ := Γ)) fun σ H Q q => ?_
    obtain ⟨g, sl, S, rl, p⟩ := tD_iff.mp q
    refine tD_iff.mpr ⟨g, sl, S, rl, ?_⟩
    unfold mIsX at p
    rw [hl] at p
    split at p
    · exact p
    · exact p
  | some b =>
    obtain ⟨t1, t2⟩ := T _ _ hl
    by_cases ecls : cls = .ref (J.C.ca x.c)
    · subst ecls
      refine PE.imp (pe_callB (X := X.suite a ((a, oe) :: pn)) (call_isX t1 hz hf) hg hm rfl (pa_cons (pe_var (X := X.suite a ((a, oe) :: pn)) hN hv hd hcd) (pa_cons hcls pa_nil he2) he) (by decide) (by decide) he hpl) fun σ H Q q => ?_
      obtain ⟨g, sl, S, rl, p⟩ := tD_iff.mp q
      unfold mIsX at p
      rw [hl] at p
      obtain ⟨c1, c2⟩ := rl.cau _ hc
      split at p
      · rename_i e
        have p : PD X.K J Γ σ sl g H Q (.ok (.bl b) S) := p
        refine ⟨_, c1 e, cvV, cv, b, rfl, hcv, t2, fun dd hdd => ?_, PD.now p rl (.bl b)⟩
        rcases c2.2 with ⟨_, _, z⟩ | ⟨d2, fs, z1, z2, z3⟩
        · have z : d = none := z
          rw [z] at hdd; cases hdd
        · have z1 : d = some d2 := z1
          rw [z1] at hdd; cases hdd
          exact ⟨fs, rl.sub _ _ z2⟩
      · exact False.elim p
    · refine PE.imp (sd_stuck (J := J) (Γ := Γ)) fun σ H Q q => ?_
      obtain ⟨g, sl, S, rl, p⟩ := tD_iff.mp q
      exact absurd (rl.cau _ hc).2.1 ecls
/-- the class as a value -/
theorem pe_own {X : Cx} {n : Str} {C : Addr} {p2 : Pos} (hm : X.mg n = some (.ref C)) (hg : Gl X n := by rfl) (hd : (n == ("__debug__" : Str)) = false := by decide) : PE X (.Name n p2) (tC (.ref C)) := pe_glob hg hm rfl hd
end Sm
set_option Elab.async false
set_option linter.all false
set_option maxRecDepth 100000
set_option maxHeartbeats 2000000
/-! Sim 17: calls within suites, borrowed arguments, methods of texts. -/
namespace Sm
open PySem PySem.Spec PyProof.Rows L2

/-! ### calls within a suite -/
section
variable {P : Program} {w : World} {K : PySem.W.Frag} {mg : Str → Option Value} {base : Heap} {C : Cfg} {lv fresh : Bool}
theorem fn_simH {x qual : Str} {st : Stmt} {f : Addr} {fd : FuncData} {N ps : List Str} {k : Nat} {m : Ms} {ΓX Γ' : List Bool} (hca : C.cau = none) (F : Fun K x qual st f fd) (Sc : FnScope N ps (defScope st))
    (hb : ∀ (cdv : Value) (A : Around) (outer : List Env) (s : Shared) (H : Hp) (E : XK) (p : Addr × Obj), L2H.Hot1 A p → L2H.RoomH k (A.deeper (envOfC qual (defScope st) s.heap.objs.size f cdv)) →
      SSs (L2H.cxH (L2N.CX P w) P w K mg base N qual (defScope st) f cdv A outer s H E p) ⟨⟨C, fun cls d _ H => E cls d H, lv⟩, ΓX, [], fresh⟩ (List.replicate N.length false) Γ' (defBody st) m) :
    L2H.FnH P w K mg base (L2N.CX P w) (k + 1) f fd ps (spF K C lv fresh (mFn ps.length N.length fresh m)) := by
  obtain ⟨oc, od, kV, doc, pm, an, cdv, ct, osl, rfl, lk, hcd⟩ := F.ex
  refine L2H.fn_ofH lk hcd Sc (fun vs H Q E h => ?_) fun A outer s H vs Q E p hot hr h => ?_
  · obtain ⟨g, ds, S, hn, hs, hd, q⟩ := h
    have z := (end_run (B := ⟨⟨C, fun cls d _ H => E cls d H, lv⟩, ΓX, [], fresh⟩) (Γ' := Γ') hn rfl q).1
    rw [← hd.length]; exact z
  · obtain ⟨g, ds, S, hn, hs, hd, q⟩ := h
    refine ⟨_, hb cdv A outer s H E p hot hr, ?_⟩
    exact tSt_iff.mpr ⟨g, _, S, start_rel hca hs hd, (end_run (B := ⟨⟨C, fun cls d _ H => E cls d H, lv⟩, ΓX, [], fresh⟩) hn rfl q).2⟩
end
section
variable {X : Cx} {J : Jd} {Γ : List Bool} {k : Nat} {f : Addr} {fd : FuncData} {ps : List Str} {x : Str} {p pos : Pos} {e : Expr} {es : List Expr} {Fm : Fn} {ma : Mx (List D)} {lv : Bool}
theorem sd_callH (F : L2H.FnH X.prog X.w X.K X.mg X.base (L2N.CX X.prog X.w) k f fd ps (spF X.K J.C lv false Fm)) (hx : Lets X J.W) (hr : L2H.RoomH k X.A) (hot : L2H.HotC X) (hm : X.mg x = some (.ref f)) (hk : PySem.W.keepIn X.K (.ref f) = true) (hb : Binds X.K fd ps []) (ha : SDs X J Γ (e :: es) ma)
    (hlv : lv = true → J.lv = true := by first | exact fun h => h | exact fun _ => rfl | exact fun h => Bool.noConfusion h) (hg : Gl X x := by rfl) (hdb : (x == ("__debug__" : Str)) = false := by decide) (he : starEach (e :: es) X.env = (false, eval e X.env) :: starEach es X.env := by rfl) (hpl : (backTo pos (starEach es X.env)).any (·.1) = false := by rfl) :
    SD X J Γ (.Call (.Name x p) (e :: es) [] pos) (mCall Fm ma) := PE.imp (L2H.pe_callH F hr hot hg hm hk hb hx ha hdb he hpl) fun σ H Q q => by
  obtain ⟨g, sl, S, rl, p⟩ := tD_iff.mp q
  exact chDs postD rl p fun g1 H1 ds S1 vs st1 r1 b1 p1 => spF_D hlv r1 b1 p1
/-- a suite's context bears the exception -/
theorem hot_suite {X : Cx} {a : Addr} {oe : Obj} {cls : Value} {d : Option Addr} {pn : List (Addr × Obj)} (hz : L2N.Zn cls d oe) (hf : ∃ vs, oe.data = .fields vs) : L2H.HotC (X.suite a ((a, oe) :: pn)) := by
  obtain ⟨vs, hv⟩ := hf
  exact ⟨(a, oe), ⟨rfl, vs, hv, hz.2.2 vs hv⟩, List.mem_cons_self⟩
theorem room_suite {X : Cx} {a : Addr} {pn : List (Addr × Obj)} (hr : Room k X.A) : L2H.RoomH k (X.suite a pn).A := ⟨hr.dp, hr.un⟩
theorem hot_cxH {CX : CXT} {P : Program} {w : World} {K : PySem.W.Frag} {mg : Str → Option Value} {base : Heap} {N : List Str} {qual : Str} {scope : Scope} {f : Addr} {cd : Value} {A : Around} {outer : List Env} {s : Shared} {H : Hp} {E : XK} {p : Addr × Obj} (h : L2H.Hot1 A p) : L2H.HotC (L2H.cxH CX P w K mg base N qual scope f cd A outer s H E p) :=
  ⟨p, h, List.mem_cons_self⟩
end

/-! ### borrowed arguments: the callee reads them, and gives no object back -/
def atomD : D → Bool
  | .non | .bl _ | .int _ | .str _ => true
  | _ => false
def mCallV (F : Fn) (ma : Mx (List D)) : Mx D := bindX ma fun ds _ S => match F ds S with
  | .ok d _ => if atomD d = true then .ok d S else .stuck
  | _ => .stuck
def RepV (K : PySem.W.Frag) (C : Cfg) (g : Gh) (H : Hp) (d : D) (v : V) : Prop := Rep K C g.G g.ρ d v ∨ ∃ p i, v = .ref p ∧ g.own p = some (.slot i) ∧ Cell K C g H p d
inductive RepVs (K : PySem.W.Frag) (C : Cfg) (g : Gh) (H : Hp) : List D → List V → Prop
  | nil : RepVs K C g H [] []
  | cons {d : D} {v : V} {ds : List D} {vs : List V} : RepV K C g H d v → RepVs K C g H ds vs → RepVs K C g H (d :: ds) (v :: vs)
def PVs (K : PySem.W.Frag) (J : Jd) (Γ : List Bool) (σ : L2.St) (sl : List (Option D)) (g : Gh) (H : Hp) (Q : List V → Hp → Prop) : Rx (List D) → Prop
  | .ok d S' => ∀ g' H' v, Stp (cE J.lv) g H g' H' → Rel K J.C Γ g' sl S' σ H' → RepVs K J.C g' H' d v → Q v H'
  | .err x S' => PErr K J Γ σ sl g H x S'
  | .stuck => False
def tVs (K : PySem.W.Frag) (J : Jd) (Γ : List Bool) (m : Mx (List D)) : TA := fun σ H Q => ∃ g sl S, Rel K J.C Γ g sl S σ H ∧ PVs K J Γ σ sl g H Q (m sl S)
def SVs (X : Cx) (J : Jd) (Γ : List Bool) (es : List Expr) (m : Mx (List D)) : Prop := PA X es (tVs X.K J Γ m)
section
variable {K : PySem.W.Frag} {J : Jd} {Γ : List Bool} {σ : L2.St} {sl : List (Option D)} {g g' : Gh} {H H' : Hp} {S : Sto}
theorem RepV.step {lv : Bool} {C : Cfg} {d : D} {v : V} (h : RepV K C g H d v) (st : Stp (cE lv) g H g' H') : RepV K C g' H' d v := by
  rcases h with h | ⟨p, i, rfl, h1, h2⟩
  · exact .inl (h.step st)
  · exact .inr ⟨p, i, rfl, st.ow p _ h1 rfl, h2.step st h1 rfl⟩
theorem PVs.step {g1 : Gh} {H1 : Hp} {Q : List V → Hp → Prop} {r : Rx (List D)} (st : Stp (cE J.lv) g H g1 H1) (h : PVs K J Γ σ sl g H Q r) : PVs K J Γ σ sl g1 H1 Q r := by
  cases r with
  | ok d S' => exact fun g' H' v s r e => h g' H' v (st.trans s) r e
  | err x S' => exact PErr.step st h
  | stuck => exact h
theorem postVs {Q : List V → Hp → Prop} : Post K J Γ σ sl (fun g H r => PVs K J Γ σ sl g H Q r) := ⟨fun _ _ _ _ h => h, fun _ _ h => h, fun _ _ _ _ _ s h => PVs.step s h⟩
theorem chVs {β : Type} {P : Gh → Hp → Rx β → Prop} {m : Mx (List D)} {f : List D → Mx β} {R : List V → Hp → Prop} (hP : Post K J Γ σ sl P) (r : Rel K J.C Γ g sl S σ H) (h : P g H (bindX m f sl S))
    (k : ∀ g1 H1 d S1 x, Stp (cE J.lv) g H g1 H1 → Rel K J.C Γ g1 sl S1 σ H1 → RepVs K J.C g1 H1 d x → P g1 H1 (f d sl S1) → R x H1) : tVs K J Γ m σ H R := by
  refine ⟨g, sl, S, r, ?_⟩
  unfold bindX at h
  cases e : m sl S with
  | ok d S' => rw [e] at h; exact fun g' H' v s r' b => k g' H' d S' v s r' b (hP.step _ _ _ _ _ s h)
  | err x S' => rw [e] at h; exact hP.err _ _ _ _ h
  | stuck => rw [e] at h; exact hP.stuck _ _ h
/-- the frame's own lists, frozen for the callee -/
theorem frz_reps {ds : List D} {vs : List V} (r : Rel K J.C Γ g sl S σ H) (h : RepVs K J.C g H ds vs) : Reps K J.C (g.let H []).G (g.let H []).ρ ds vs := by
  induction h with
  | nil => exact .nil
  | cons h _ ih =>
    refine .cons ?_ ih
    rcases h with h | ⟨p, i, rfl, h1, h2⟩
    · exact h.mono (let_G r.sto) fun _ _ z => z
    · refine cell_rep (h2.mono rfl (let_G r.sto) fun _ _ z => z) ?_
      show (match g.own p with | some (.slot i) => if ([] : List Bool).getD i false = true then g.G p else H p | _ => g.G p) = H p
      rw [h1]
      simp
theorem callV_run {Q : VK} {E : XK} {Fm : Fn} {ds : List D} {vs : List V} (rl : Rel K J.C Γ g sl S σ H) (b : RepVs K J.C g H ds vs) (p : PD K J Γ σ sl g H Q (match Fm ds S with | .ok d _ => if atomD d = true then .ok d S else .stuck | _ => .stuck)) : spF K J.C false false Fm vs H Q E := by
  refine ⟨g.let H [], ds, S, fun a i h => by have := (let_own h).2 i rfl; simp at this, let_sto rl.sto, frz_reps rl b, ?_⟩
  cases e : Fm ds S with
  | err x S' => rw [e] at p; exact False.elim p
  | stuck => rw [e] at p; exact False.elim p
  | ok d S' =>
    rw [e] at p
    intro g' H' v ns st so re _
    unfold RepY at re
    rw [if_neg Bool.false_ne_true] at re
    have p : PD K J Γ σ sl g H Q (if atomD d = true then .ok d S else .stuck) := p
    by_cases ha : atomD d = true
    · rw [if_pos ha] at p
      have keep : ∀ a o, H a = some o → H' a = some o := fun a o h => st.fr a o h fun w _ => by cases w <;> rfl
      have gone : ∀ a, H' a = none → H a = none := fun a h => by
        cases e2 : H a with
        | none => rfl
        | some o => rw [keep a o e2] at h; cases h
      have st2 : Stp (cE J.lv) g H g H' := ⟨Same.refl _, fun a o h _ => keep a o h, gone, fun _ _ h _ => h, fun _ _ h => .inl h, fun _ _ h => .inl h, fun _ _ h => h⟩
      have eqH : ∀ a, H a ≠ none → H' a = H a := fun a h => by
        cases e2 : H a with
        | none => exact absurd e2 h
        | some o => exact keep a o e2
      have so2 : StoOk K J.C g H' S := sto_keep rl.sto (fun a o h => keep a o (rl.sto.sub a o h)) rfl (Same.refl _) (fun a w h => ⟨(rl.sto.fro a w h).1, by rw [eqH a (rl.sto.fro a w h).2]; exact (rl.sto.fro a w h).2⟩) fun a w h _ => ⟨h, eqH a (rl.sto.fro a w h).2⟩
      refine p g H' v st2 (rl.step st2 so2) ?_
      cases re <;> first | exact .non | exact .bl _ | exact .int _ | exact .str _ | cases ha
    · rw [if_neg ha] at p; exact False.elim p
end
section
variable {X : Cx} {J : Jd} {Γ : List Bool} {k : Nat} {f : Addr} {fd : FuncData} {ps : List Str} {x y : Str} {p p2 pos : Pos} {e : Expr} {es : List Expr} {Fm : Fn} {me : Mx D} {ma : Mx (List D)} {lv : Bool}
theorem svs_nil : SVs X J Γ [] mNil := PA.imp pa_nil fun σ H Q q => by
  obtain ⟨g, sl, S, r, p⟩ := q
  exact p g H [] Stp.refl r .nil
theorem svs_cons (he : SD X J Γ e me) (hr : SVs X J Γ es ma) (hs : starEach (e :: es) X.env = (false, eval e X.env) :: starEach es X.env := by rfl) : SVs X J Γ (e :: es) (mCons me ma) := PA.imp (pa_cons he hr hs) fun σ H Q q => by
  obtain ⟨g, sl, S, rl, p⟩ := q
  refine chD postVs rl p fun g1 H1 d S1 x st1 r1 b1 p1 => ?_
  refine chVs postVs r1 p1 fun g2 H2 ds S2 xs st2 r2 b2 p2 => ?_
  exact p2 g2 H2 (x :: xs) Stp.refl r2 (.cons (.inl (b1.step st2)) b2)
/-- the frame's own list, lent -/
theorem svs_own (i : Nat) (hr : SVs X J Γ es ma) (hΓ : Γ.getD i false = true := by rfl) (hN : X.N[i]? = some x := by rfl) (hv : Vis X.env.scope x := by first | exact Or.inl rfl | exact Or.inr (Or.inl rfl) | exact Or.inr (Or.inr rfl)) (hd : (x == ("__debug__" : Str)) = false := by decide)
    (hcd : (x == ("__classdict__" : Str)) = false := by decide) (hs : starEach (.Name x p :: es) X.env = (false, eval (.Name x p) X.env) :: starEach es X.env := by rfl) : SVs X J Γ (.Name x p :: es) (mCons (mVar i) ma) := PA.imp (pa_cons (pe_var hN hv hd hcd) hr hs) fun σ H Q q => by
  obtain ⟨g, sl, S, rl, p⟩ := q
  have p : PVs X.K J Γ σ sl g H Q (bindX (mVar i) (fun d => bindX ma fun ds => pureX (d :: ds)) sl S) := p
  cases e : sl[i]? with
  | none => simp only [bindX, mVar, e] at p; exact False.elim p
  | some od =>
    cases od with
    | none => simp only [bindX, mVar, e] at p; exact False.elim p
    | some d =>
      have p : PVs X.K J Γ σ sl g H Q (bindX ma (fun ds => pureX (d :: ds)) sl S) := by
        simp only [bindX, mVar, e] at p ⊢; exact p
      obtain ⟨a, h1, h2, h3⟩ := rl.slO i d e hΓ
      refine ⟨.ref a, h1, chVs postVs rl p fun g2 H2 ds S2 xs st2 r2 b2 p2 => ?_⟩
      exact p2 g2 H2 (.ref a :: xs) Stp.refl r2 (.cons (.inr ⟨a, i, rfl, st2.ow a _ h2 rfl, h3.step st2 h2 rfl⟩) b2)
theorem sd_callV (F : FnOk X.prog X.w X.K X.mg X.base (L2N.CX X.prog X.w) k f fd ps (spF X.K J.C false false Fm)) (hx : Lets X J.W) (hr : Room k X.A) (hm : X.mg x = some (.ref f)) (hk : PySem.W.keepIn X.K (.ref f) = true) (hb : Binds X.K fd ps []) (ha : SVs X J Γ (e :: es) ma)
    (hg : Gl X x := by rfl) (hdb : (x == ("__debug__" : Str)) = false := by decide) (he : starEach (e :: es) X.env = (false, eval e X.env) :: starEach es X.env := by rfl) (hpl : (backTo pos (starEach es X.env)).any (·.1) = false := by rfl) :
    SD X J Γ (.Call (.Name x p) (e :: es) [] pos) (mCallV Fm ma) := PE.imp (call_pe F hx hr hm hk hb ha hg hdb he hpl) fun σ H Q q => by
  obtain ⟨g, sl, S, rl, p⟩ := tD_iff.mp q
  exact chVs postD rl p fun g1 H1 ds S1 vs st1 r1 b1 p1 => callV_run r1 b1 p1
end

/-! ### methods of texts -/
def mM1 (f : Str → D → Option D) (mo me : Mx D) : Mx D := bindX mo fun o => match o with
  | .str a => bindX me fun y => ofO (f a y)
  | _ => fun _ _ => .stuck
def fJoin (a : Str) (d : D) : Option D := match d with
  | .lst ds => (toStrs ds).bind fun ys => if (ys.map (·.length)).sum + ys.length * a.length ≤ 16777216 then some (.str (Txt.join a ys)) else none
  | .tup ds => (toStrs ds).bind fun ys => if (ys.map (·.length)).sum + ys.length * a.length ≤ 16777216 then some (.str (Txt.join a ys)) else none
  | _ => none
def fIndex (a : Str) (d : D) : Option D := match d with
  | .str b => match Builtin.Str.occurrences a b 0 a.length 1 with
    | i :: _ => some (.int (i : Nat))
    | [] => none
  | _ => none
section
variable {X : Cx} {J : Jd} {Γ : List Bool} {o e : Expr} {mo me : Mx D} {apos pos : Pos}
theorem m1_run {r : V → List V → Hp → VK → Prop} {f : Str → D → Option D} (hf : ∀ (σ : L2.St) (sl : List (Option D)) (g : Gh) (H : Hp) (S : Sto) (Q : VK) (a : Str) (d z : D) (y : V), f a d = some z → Rel X.K J.C Γ g sl S σ H → RepB X.K J g H d y → PD X.K J Γ σ sl g H Q (.ok z S) → r (.str a) [y] H Q) {σ : L2.St} {H : Hp} {Q : VK} (q : tD X.K J Γ (mM1 f mo me) σ H Q) : tM1 r (tBo X.K J Γ mo) (tBo X.K J Γ me) σ H Q := by
  obtain ⟨g, sl, S, rl, p⟩ := tD_iff.mp q
  refine chB postD rl p fun g1 H1 d S1 x st1 r1 b1 p1 => ?_
  cases d <;> first | exact False.elim p1 | skip
  rename_i a
  cases b1.str
  refine ⟨⟨a, rfl⟩, ?_⟩
  refine chB postD r1 p1 fun g2 H2 e S2 y st2 r2 b2 p2 => ?_
  obtain ⟨z, hz, p3⟩ := ofO_of postD p2
  exact hf σ sl g2 H2 S2 Q a e z y hz r2 b2 p3
theorem sd_join (ho : SB X J Γ o mo) (he : SB X J Γ e me) (hs : starEach [e] X.env = [(false, eval e X.env)] := by rfl) (hbase : attributeBase o "join" X.env (eval o X.env) = eval o X.env := by rfl) (hline : (apos.endLine == pos.line) = true := by rfl) :
    SD X J Γ (.Call (.Attribute o "join" apos) [e] [] pos) (mM1 fJoin mo me) := PE.imp (pe_join ho he hs hbase hline) fun σ H Q q => m1_run (fun σ sl g H S Q a d z y hf rl b p => by
  unfold fJoin at hf
  split at hf
  · rename_i ds
    obtain ⟨ys, h1, h2⟩ := Option.bind_eq_some_iff.mp hf
    split at h2
    · rename_i hz
      cases h2
      obtain ⟨pp, vs, rfl, sq, r⟩ := b.lst rl.sub
      have hv := reps_strs h1 r
      subst hv
      exact ⟨a, pp, ys, rfl, rfl, .inl sq, hz, PD.now p rl (.str _)⟩
    · cases h2
  · rename_i ds
    obtain ⟨ys, h1, h2⟩ := Option.bind_eq_some_iff.mp hf
    split at h2
    · rename_i hz
      cases h2
      obtain ⟨pp, vs, rfl, sq, r⟩ := b.tup rl.sub
      have hv := reps_strs h1 r
      subst hv
      exact ⟨a, pp, ys, rfl, rfl, .inr sq, hz, PD.now p rl (.str _)⟩
    · cases h2
  · cases hf) q
theorem sd_sindex (ho : SB X J Γ o mo) (he : SB X J Γ e me) (hs : starEach [e] X.env = [(false, eval e X.env)] := by rfl) (hbase : attributeBase o "index" X.env (eval o X.env) = eval o X.env := by rfl) (hline : (apos.endLine == pos.line) = true := by rfl) :
    SD X J Γ (.Call (.Attribute o "index" apos) [e] [] pos) (mM1 fIndex mo me) := PE.imp (pe_m1 F.slot_str_index F.type_str_index mt_sindex ho he hs hbase hline) fun σ H Q q => m1_run (fun σ sl g H S Q a d z y hf rl b p => by
  unfold fIndex at hf
  split at hf
  · rename_i b'
    split at hf
    · rename_i i rest hi
      cases hf
      cases b.str
      exact ⟨a, b', i, rest, rfl, rfl, hi, PD.now p rl (.int _)⟩
    · cases hf
  · cases hf) q
end
end Sm
set_option Elab.async false
set_option linter.all false
set_option maxRecDepth 100000
set_option maxHeartbeats 2000000
/-! Sim 18: defs by name, the end. -/
namespace Sm
open PySem PySem.Spec PyProof.Rows L2

section
variable (P : Program) (w : World) (K : PySem.W.Frag) (mg : Str → Option Value) (base : Heap)
/-- the def x of the top keeps its promise -/
structure Has (x : Str) (C : Cfg) (k : Nat) (lv fresh : Bool) (ps : List Str) (F : Fn) : Prop where
  ex : ∃ (f : Addr) (fd : FuncData), mg x = some (.ref f) ∧ PySem.W.keepIn K (.ref f) = true ∧ Binds K fd ps [] ∧ FnOk P w K mg base (L2N.CX P w) k f fd ps (spF K C lv fresh F)
structure HasH (x : Str) (C : Cfg) (k : Nat) (lv : Bool) (ps : List Str) (F : Fn) : Prop where
  ex : ∃ (f : Addr) (fd : FuncData), mg x = some (.ref f) ∧ PySem.W.keepIn K (.ref f) = true ∧ Binds K fd ps [] ∧ L2H.FnH P w K mg base (L2N.CX P w) k f fd ps (spF K C lv false F)
/-- the method m of the class c -/
structure HasM (c : Nat) (m : Str) (C : Cfg) (k : Nat) (lv fresh : Bool) (ps : List Str) (F : Fn) : Prop where
  ex : ∃ (f : Addr) (fd : FuncData), MethAt K C c m f ∧ Binds K fd ps [] ∧ FnOk P w K mg base (L2N.CX P w) k f fd ps (spF K C lv fresh F)
structure HasMK (c : Nat) (m : Str) (C : Cfg) (k : Nat) (lv fresh : Bool) (ps ks : List Str) (perm : List Nat) (F : Fn) : Prop where
  ex : ∃ (f : Addr) (fd : FuncData), MethAt K C c m f ∧ KB K fd ps ks 1 perm ∧ FnOk P w K mg base (L2N.CX P w) k f fd ps (spF K C lv fresh F)
/-- the class x, which is c -/
structure HasC (x : Str) (c : Nat) (C : Cfg) (k : Nat) (lv : Bool) (ps : List Str) (F : Fn) : Prop where
  ex : ∃ (f : Addr) (fd : FuncData), mg x = some (.ref (C.ca c)) ∧ Mk K (C.ca c) f ∧ Binds K fd ps [] ∧ FnOk P w K mg base (L2N.CX P w) k f fd ps (spF K C lv false F)
structure HasCK (x : Str) (c : Nat) (C : Cfg) (k : Nat) (lv : Bool) (ps ks : List Str) (perm : List Nat) (F : Fn) : Prop where
  ex : ∃ (f : Addr) (fd : FuncData), mg x = some (.ref (C.ca c)) ∧ Mk K (C.ca c) f ∧ KB K fd ps ks 1 perm ∧ FnOk P w K mg base (L2N.CX P w) k f fd ps (spF K C lv false F)
end
section
variable {X : Cx} {J : Jd} {Γ : List Bool} {k j c nf : Nat} {ps ks : List Str} {perm : List Nat} {x m : Str} {p pos apos : Pos} {e o : Expr} {es : List Expr} {kws : List Keyword} {Fm : Fn} {ma : Mx (List D)} {mo : Mx D} {lv : Bool}
theorem sd_fn (h : Has X.prog X.w X.K X.mg X.base x J.C k lv false ps Fm) (hx : Lets X J.W) (hr : Room j X.A) (ha : SDs X J Γ (e :: es) ma) (hkj : k ≤ j := by first | decide | omega) (hlv : lv = true → J.lv = true := by first | exact fun h => h | exact fun _ => rfl | exact fun h => Bool.noConfusion h) (hg : Gl X x := by rfl) (hdb : (x == ("__debug__" : Str)) = false := by decide)
    (he : starEach (e :: es) X.env = (false, eval e X.env) :: starEach es X.env := by rfl) (hpl : (backTo pos (starEach es X.env)).any (·.1) = false := by rfl) : SD X J Γ (.Call (.Name x p) (e :: es) [] pos) (mCall Fm ma) := by
  obtain ⟨f, fd, h1, h2, h3, h4⟩ := h.ex
  exact sd_call h4 hx (hr.mono hkj) h1 h2 h3 ha hlv hg hdb he hpl
theorem sn_fn (h : Has X.prog X.w X.K X.mg X.base x J.C k lv true ps Fm) (hx : Lets X J.W) (hr : Room j X.A) (ha : SDs X J Γ (e :: es) ma) (hkj : k ≤ j := by first | decide | omega) (hlv : lv = true → J.lv = true := by first | exact fun h => h | exact fun _ => rfl | exact fun h => Bool.noConfusion h) (hg : Gl X x := by rfl) (hdb : (x == ("__debug__" : Str)) = false := by decide)
    (he : starEach (e :: es) X.env = (false, eval e X.env) :: starEach es X.env := by rfl) (hpl : (backTo pos (starEach es X.env)).any (·.1) = false := by rfl) : SN X J Γ (.Call (.Name x p) (e :: es) [] pos) (mCall Fm ma) := by
  obtain ⟨f, fd, h1, h2, h3, h4⟩ := h.ex
  exact sn_call h4 hx (hr.mono hkj) h1 h2 h3 ha hlv hg hdb he hpl
theorem sd_fnV (h : Has X.prog X.w X.K X.mg X.base x J.C k false false ps Fm) (hx : Lets X J.W) (hr : Room j X.A) (ha : SVs X J Γ (e :: es) ma) (hkj : k ≤ j := by first | decide | omega) (hg : Gl X x := by rfl) (hdb : (x == ("__debug__" : Str)) = false := by decide)
    (he : starEach (e :: es) X.env = (false, eval e X.env) :: starEach es X.env := by rfl) (hpl : (backTo pos (starEach es X.env)).any (·.1) = false := by rfl) : SD X J Γ (.Call (.Name x p) (e :: es) [] pos) (mCallV Fm ma) := by
  obtain ⟨f, fd, h1, h2, h3, h4⟩ := h.ex
  exact sd_callV h4 hx (hr.mono hkj) h1 h2 h3 ha hg hdb he hpl
theorem sd_fnH (h : HasH X.prog X.w X.K X.mg X.base x J.C k lv ps Fm) (hx : Lets X J.W) (hr : L2H.RoomH j X.A) (hot : L2H.HotC X) (ha : SDs X J Γ (e :: es) ma) (hkj : k ≤ j := by first | decide | omega) (hlv : lv = true → J.lv = true := by first | exact fun h => h | exact fun _ => rfl | exact fun h => Bool.noConfusion h) (hg : Gl X x := by rfl) (hdb : (x == ("__debug__" : Str)) = false := by decide)
    (he : starEach (e :: es) X.env = (false, eval e X.env) :: starEach es X.env := by rfl) (hpl : (backTo pos (starEach es X.env)).any (·.1) = false := by rfl) : SD X J Γ (.Call (.Name x p) (e :: es) [] pos) (mCall Fm ma) := by
  obtain ⟨f, fd, h1, h2, h3, h4⟩ := h.ex
  exact sd_callH h4 hx (hr.mono hkj) hot h1 h2 h3 ha hlv hg hdb he hpl
theorem mok {fresh : Bool} (h : HasM X.prog X.w X.K X.mg X.base c m J.C k lv fresh ps Fm) (hr : Room j X.A) (hkj : k ≤ j := by first | decide | omega) (hlv : lv = true → J.lv = true := by first | exact fun h => h | exact fun _ => rfl | exact fun h => Bool.noConfusion h) : ∀ c' F', [(c, Fm)].lookup c' = some F' → MOk X J fresh m c' F' := fun c' F' q => by
  by_cases z : c' = c
  · subst z
    simp [List.lookup] at q
    subst q
    obtain ⟨f, fd, h1, h2, h3⟩ := h.ex
    exact ⟨k, f, fd, ps, lv, h1, h3, hr.mono hkj, h2, hlv⟩
  · have e : (c' == c) = false := by simpa using z
    simp [List.lookup, e] at q
theorem mokK {fresh : Bool} (h : HasMK X.prog X.w X.K X.mg X.base c m J.C k lv fresh ps ks perm Fm) (hr : Room j X.A) (hkj : k ≤ j := by first | decide | omega) (hlv : lv = true → J.lv = true := by first | exact fun h => h | exact fun _ => rfl | exact fun h => Bool.noConfusion h) : ∀ c' F', [(c, Fm)].lookup c' = some F' → MOkK X J fresh m ks perm c' F' := fun c' F' q => by
  by_cases z : c' = c
  · subst z
    simp [List.lookup] at q
    subst q
    obtain ⟨f, fd, h1, h2, h3⟩ := h.ex
    exact ⟨k, f, fd, ps, lv, h1, h3, hr.mono hkj, h2, hlv⟩
  · have e : (c' == c) = false := by simpa using z
    simp [List.lookup, e] at q
theorem sd_new (h : HasC X.prog X.w X.K X.mg X.base x c J.C k lv ps Fm) (hx : Lets X J.W) (hr : Room j X.A) (ha : SDs X J Γ (e :: es) ma) (hkj : k + 1 ≤ j := by first | decide | omega) (hl : J.lv = true := by rfl) (hnf : nf = (J.C.fl c).length := by rfl) (hg : Gl X x := by rfl) (hdb : (x == ("__debug__" : Str)) = false := by decide)
    (he : starEach (e :: es) X.env = (false, eval e X.env) :: starEach es X.env := by rfl) (hpl : (backTo pos (starEach es X.env)).any (·.1) = false := by rfl) : SD X J Γ (.Call (.Name x p) (e :: es) [] pos) (mMk c nf Fm ma) := by
  obtain ⟨f, fd, h1, h2, h3, h4⟩ := h.ex
  exact sd_mk h2 h4 hx (hr.mono hkj) h1 h3 ha hl hnf hg hdb he hpl
theorem sd_new0 (h : HasC X.prog X.w X.K X.mg X.base x c J.C k lv ps Fm) (hx : Lets X J.W) (hr : Room j X.A) (hkj : k + 1 ≤ j := by first | decide | omega) (hl : J.lv = true := by rfl) (hnf : nf = (J.C.fl c).length := by rfl) (hg : Gl X x := by rfl) (hdb : (x == ("__debug__" : Str)) = false := by decide) :
    SD X J Γ (.Call (.Name x p) [] [] pos) (mMk c nf Fm mNil) := by
  obtain ⟨f, fd, h1, h2, h3, h4⟩ := h.ex
  exact sd_mk0 h2 h4 hx (hr.mono hkj) h1 h3 hl hnf hg hdb
theorem sd_newK (ks : List Str) (perm : List Nat) (h : HasCK X.prog X.w X.K X.mg X.base x c J.C k lv ps ks perm Fm) (hx : Lets X J.W) (hr : Room j X.A) (hkw : SKs X J Γ kws ma) (hkj : k + 1 ≤ j := by first | decide | omega) (hl : J.lv = true := by rfl) (hnf : nf = (J.C.fl c).length := by rfl) (hg : Gl X x := by rfl) (hdb : (x == ("__debug__" : Str)) = false := by decide)
    (hall : (backToKw pos (keywordEach kws X.env)).all (·.1.isSome) = true := by rfl) (hks : (backToKw pos (keywordEach kws X.env)).filterMap (·.1) = ks := by rfl)
    (hpl : ((backTo pos (starEach [] X.env)).any (·.1) || (backToKw pos (keywordEach kws X.env)).any (·.1.isNone)) = false := by rfl) : SD X J Γ (.Call (.Name x p) [] kws pos) (mMk c nf Fm (mPerm ks.length perm ma)) := by
  obtain ⟨f, fd, h1, h2, h3, h4⟩ := h.ex
  exact sd_mkK ks perm h2 h4 hx (hr.mono hkj) h1 h3 hkw hl hnf hg hdb hall hks hpl
/-- a def that is never asked -/
theorem fn_stuck {P : Program} {w : World} {K : PySem.W.Frag} {mg : Str → Option Value} {base : Heap} {CX : CXT} {f : Addr} {fd : FuncData} {C : Cfg} {fresh : Bool} : FnOk P w K mg base CX k f fd ps (spF K C lv fresh fun _ _ => .stuck) :=
  ⟨fun vs H Q E ⟨_, _, _, _, _, _, h⟩ => h.elim, fun A outer s H args us vs Q E _ _ _ _ ⟨_, _, _, _, _, _, h⟩ => h.elim⟩
theorem st_lv {J' : Jd} {mt : Mx Bool} (hC : J'.C = J.C) (hW : J'.W = J.W) (hl : J'.lv = false) (h : ST X J' Γ e mt) : ST X J Γ e mt := by
  obtain ⟨C, W, lv⟩ := J
  obtain ⟨C', W', lv'⟩ := J'
  cases hC; cases hW; cases hl
  exact PT.imp h fun σ H Q q => by
    obtain ⟨g, sl, S, rl, p⟩ := tDb_iff.mp q
    refine tDb_iff.mpr ⟨g, sl, S, rl, ?_⟩
    cases e : mt sl S with
    | stuck => rw [e] at p; exact p
    | ok b S' => rw [e] at p; exact fun g' H' st r => p g' H' st.toA r
    | err x S' => rw [e] at p; exact fun g' H' cls dx st r rx => p g' H' cls dx st.toA r rx
end

/-! ### tables of facts -/
theorem okT_nil {K : PySem.W.Frag} {C : Cfg} {cv : Value} : OkT K C cv [] := fun i b h => by cases h
theorem okT_cons {K : PySem.W.Frag} {C : Cfg} {cv : Value} {r : List (Nat × Bool)} {i : Nat} {b : Bool} (h : PySem.W.exmOne K (.ref (C.ca i)) cv = some b) (hr : OkT K C cv r) : OkT K C cv ((i, b) :: r) := fun j b' q => by
  by_cases z : j = i
  · subst z
    simp [List.lookup] at q
    subst q; exact h
  · have e : (j == i) = false := by simpa using z
    simp only [List.lookup, e] at q
    exact hr j b' q
theorem isAt_nil {K : PySem.W.Frag} {C : Cfg} {cv : Value} : IsAt K C cv [] := fun i b h => by cases h
theorem isAt_cons {K : PySem.W.Frag} {C : Cfg} {cv : Value} {r : List (Nat × Bool)} {i : Nat} {b : Bool} (h : ExcC K (C.ca i)) (h2 : PySem.W.kitOne K (.ref (C.ca i)) cv = some b) (hr : IsAt K C cv r) : IsAt K C cv ((i, b) :: r) := fun j b' q => by
  by_cases z : j = i
  · subst z
    simp [List.lookup] at q
    subst q; exact ⟨h, h2⟩
  · have e : (j == i) = false := by simpa using z
    simp only [List.lookup, e] at q
    exact hr j b' q
theorem xfAt_nil {K : PySem.W.Frag} {C : Cfg} {f : Str} : XfAt K C f [] := ⟨fun c k h => by cases h⟩
theorem xfAt_cons {K : PySem.W.Frag} {C : Cfg} {f : Str} {r : List (Nat × Nat)} {i n : Nat} (h1 : (C.xl i)[n]? = some f) (h2 : XfC K (C.ca i)) (h3 : PySem.W.findIn K (.ref (C.ca i)) f = some none) (hr : XfAt K C f r) : XfAt K C f ((i, n) :: r) := ⟨fun j b' q => by
  by_cases z : j = i
  · subst z
    simp [List.lookup] at q
    subst q; exact ⟨h1, h2, h3⟩
  · have e : (j == i) = false := by simpa using z
    simp only [List.lookup, e] at q
    exact hr.at_ j b' q⟩

/-! ### the end -/
/-- nothing is in the store when the law is called: the script is a frozen list of ints -/
theorem law_sp {K : PySem.W.Frag} {C : Cfg} {lv : Bool} {F : Fn} {H : Hp} {a : Addr} {ns : List Int} (hO : Only H) (hS : SqL K H a (ns.map V.int)) (h : ∃ S', F [.lst (ns.map D.int)] [] = .ok (.bl true) S') : spF K C lv false F [.ref a] H (fun v _ => v = .bl true) fun _ _ _ => False := by
  obtain ⟨S', e⟩ := h
  refine ⟨⟨H, [], fun _ => none⟩, [.lst (ns.map D.int)], [], (fun _ _ z => nomatch z), ⟨Same.refl _, (fun _ _ z => nomatch z), rfl, (fun i ob z => by simp at z)⟩, .cons (.lst hS ?_) .nil, ?_⟩
  · clear hS e
    induction ns with
    | nil => exact .nil
    | cons i r ih => exact .cons (.int i) ih
  · rw [e]
    intro g' H' v _ _ _ re _
    unfold RepY at re
    rw [if_neg Bool.false_ne_true] at re
    cases re
    rfl
theorem walk_sim {l : PySem.W.OpenLaw} {n k : Nat} {q : Program} {loose : List Str} {YP : World → Heap → Prop} {d : DefRec} {K : Params → PySem.W.Frag} {x : Str} {F : Fn} {lvs : List (Str × PySem.W.WData)}
    (hn : l.most = some n) (hn2 : n ≤ sizeLine) (hdf : d.params.defaults = []) (hr : Room k callerA) (hY : ∀ (w : World) (h : Heap), YP w h → (K w.params).In h)
    (hF : ∀ (w : World) (mg : Str → Option Value) (fa : Addr) (h : Heap), (K w.params).In h → h.Ns mainGlobals mg → PySem.W.LooseAre lvs mg h → mg d.name = some (.ref fa) → ∃ (C : Cfg) (lv : Bool) (fd : FuncData), (∀ (s : Shared) (u : Value), BindsTo s fd ⟨[u], []⟩ [(x, u)]) ∧
      ∀ base : Heap, (K w.params).In base → base.Ns mainGlobals mg → FnOk l.prog w (K w.params) mg base (L2N.CX l.prog w) k fa fd [x] (spF (K w.params) C lv false F))
    (hL : ∀ ns : List Int, ns.length ≤ n → ∃ S', F [.lst (ns.map D.int)] [] = .ok (.bl true) S') :
    PySem.W.WalkO q loose (PySem.W.XL q lvs) YP l.row.toRowW d [] (fun f vs => PySem.call f vs) := by
  refine Att.attach_call hn hdf fun w s₀ s₁ mg mb fa o pm cd doc a vs ns G Y ho hd hcd hmg hobj hints hlen hg => ?_
  have KX := hY w _ Y
  obtain ⟨C, lv, fd, hb, hA⟩ := hF w mg fa _ KX G.T.g G.X.2 hmg
  exact law_call KX G.T.g G.T.b G.T.builtins G.T.nolimit hg hobj hints (Nat.le_trans hlen hn2) hr hA hb (fun H hO hS => law_sp hO hS (hL ns hlen)) fun H e s' ⟨_, _, _, _, _, _, _, _, _, _, _, _, z⟩ => z
end Sm
namespace Sm
open PySem PySem.Spec PyProof.Rows L2
def fNeg : D → Option D
  | .int i => some (.int (-i))
  | _ => none
theorem f_neg {K : PySem.W.Frag} : Op1 K (rU fun i => .int (-i)) fNeg := by
  intro J Γ σ sl g H S Q d z x hz r b p
  cases d <;> first | (cases hz; done) | skip
  cases hz
  exact ⟨_, b.int, PD.now p r (.int _)⟩
theorem room_un {k : Nat} {A : Around} (r : L2H.RoomH k A) : A.units + 64 < cLine := by have := r.un; omega
end Sm
namespace Sm
open PySem PySem.Spec PyProof.Rows L2
theorem sd_const {X : Cx} {J : Jd} {Γ : List Bool} {n : Int} {x : Str} {pos : Pos} (h : ∃ u, X.mg x = some u ∧ RelV (.int n) u) (hg : Gl X x := by rfl) (hd : (x == ("__debug__" : Str)) = false := by decide) : SD X J Γ (.Name x pos) (mC (.int n)) := by
  obtain ⟨u, h1, h2⟩ := h
  exact sd_glob h1 h2 (fun _ _ _ => .int n) hg hd
theorem exm_of {K : PySem.W.Frag} {C : Cfg} {i j : Nat} {b : Bool} (e : ExcC K (C.ca j)) (ty : PySem.W.typeIn K (.ref (C.ca j)) = some (.type "type")) (sb : PySem.W.subIn K (.ref (C.ca i)) (.ref (C.ca j)) = some b) : PySem.W.exmOne K (.ref (C.ca i)) (.ref (C.ca j)) = some b := PySem.W.exm_ref e.hs e.hd ty sb
theorem loose_int {lvs : List (Str × PySem.W.WData)} {mg : Str → Option Value} {h : Heap} {x : Str} {n : Int} (L : PySem.W.LooseAre lvs mg h) (hm : (x, PySem.W.WData.int n) ∈ lvs) : ∃ u, mg x = some u ∧ RelV (.int n) u := by
  obtain ⟨v, h1, h2⟩ := L.val _ hm
  refine ⟨v, h1, ?_⟩
  cases h2
  exact ⟨_, rfl⟩
end Sm
namespace Sm
open PySem PySem.Spec PyProof.Rows L2
theorem spF_w {K : PySem.W.Frag} {C : Cfg} {z : Option Cau} {lv : Bool} {F : Fn} {vs : List V} {H : Hp} {Q : VK} {E : XK} (hca : C.cau = none) (h : spF K (C.with_ z) lv false F vs H Q E) : spF K C lv false F vs H Q E := by
  have hC : (C.with_ z).with_ none = C := by cases C; cases hca; rfl
  obtain ⟨g, ds, S, hn, hs, hd, p⟩ := h
  refine ⟨g, ds, S, hn, sto_out hca hs, ?_, ?_⟩
  · have b := hd.w (z := none)
    rwa [hC] at b
  · cases e : F ds S with
    | ok d S' =>
      rw [e] at p
      intro g' H' v n st so re fr
      refine p g' H' v n st so.w ?_ fr
      unfold RepY at re ⊢
      rw [if_neg Bool.false_ne_true] at re ⊢
      exact re.w
    | err x S' =>
      rw [e] at p
      exact fun g' H' cls dx n st so re => p g' H' cls dx n st so.w re.w
    | stuck => rw [e] at p; exact p
theorem HasH.w {P : Program} {w : World} {K : PySem.W.Frag} {mg : Str → Option Value} {base : Heap} {x : Str} {C : Cfg} {z : Option Cau} {k : Nat} {lv : Bool} {ps : List Str} {F : Fn} (h : HasH P w K mg base x C k lv ps F) (hca : C.cau = none := by rfl) : HasH P w K mg base x (C.with_ z) k lv ps F := by
  obtain ⟨f, fd, h1, h2, h3, h4⟩ := h.ex
  exact ⟨f, fd, h1, h2, h3, ⟨fun vs H Q E q => h4.len vs H Q E (spF_w hca q), fun A outer s H args us vs Q E p a1 a2 a3 a4 a5 a6 q => h4.run A outer s H args us vs Q E p a1 a2 a3 a4 a5 a6 (spF_w hca q)⟩⟩
end Sm
namespace Sm
open PySem PySem.Spec PyProof.Rows L2
section
variable {X : Cx} {B : Js} {Γ Γ' : List Bool} {elt tg iter : Expr} {ms : Mx (List D)} {t : Tg} {mt : Mx Bool} {me : Mx D} {gt : TG} {tt : TT} {ifs : List Expr} {scope : Scope} {own : List (Str × Nat)} {pos py spos : Pos}
theorem lc_toD {K : PySem.W.Frag} {J : Jd} {σ : L2.St} {H : Hp} {Q : VK} {vs : List Nat} {te : TE} (hca : J.C.cau = none)
    (hg : ∀ (g : Gh) (sl sl' : List (Option D)) (S : Sto) (σ : L2.St) (H : Hp) (d : D) (v : V) (Q : L2.St → Hp → Prop), Rel K J.C Γ g sl S σ H → Rep K J.C g.G g.ρ d v → t d sl = some sl' → (∀ σ', SetOnly vs σ σ' → Rel K J.C Γ' g sl' S σ' H → Q σ' H) → gt v σ H Q)
    (ht : ∀ σ H Q, tDb K J.blk Γ' mt σ H Q → tt σ H Q) (he : ∀ σ H Q, tD K J.blk Γ' me σ H Q → te σ H Q) (q : tD K J Γ (mLc ms t mt me vs) σ H Q) : tLc (tI K J (cE J.lv) Γ ms) gt tt te vs σ H Q := by
  obtain ⟨g, sl, S, r, p⟩ := tD_iff.mp q
  refine lc_post hca postD r p hg ht he fun g' H' zs ys S' Da st rl hD h1 h2 h3 h4 p => ?_
  have st' := stp_froze st hD h1 h2 h3
  refine p _ H' _ st' (r.step st' (sto_froze rl.sto h1 h2 h3)) (.lst (.of upd_same) (h4.mono (fun a u h => ?_) fun _ _ z => z))
  have z : a ≠ Da := fun z => by rw [z, h3] at h; cases h
  show upd g'.G Da _ a = _
  rw [upd_ne z]; exact h
theorem lc_toN {K : PySem.W.Frag} {J : Jd} {σ : L2.St} {H : Hp} {Q : VK} {vs : List Nat} {te : TE} (hca : J.C.cau = none)
    (hg : ∀ (g : Gh) (sl sl' : List (Option D)) (S : Sto) (σ : L2.St) (H : Hp) (d : D) (v : V) (Q : L2.St → Hp → Prop), Rel K J.C Γ g sl S σ H → Rep K J.C g.G g.ρ d v → t d sl = some sl' → (∀ σ', SetOnly vs σ σ' → Rel K J.C Γ' g sl' S σ' H → Q σ' H) → gt v σ H Q)
    (ht : ∀ σ H Q, tDb K J.blk Γ' mt σ H Q → tt σ H Q) (he : ∀ σ H Q, tD K J.blk Γ' me σ H Q → te σ H Q) (q : tNw K J Γ (mLc ms t mt me vs) σ H Q) : tLc (tI K J (cE J.lv) Γ ms) gt tt te vs σ H Q := by
  obtain ⟨g, sl, S, r, p⟩ := tNw_iff.mp q
  exact lc_post hca postN r p hg ht he fun g' H' zs ys S' Da st rl hD h1 h2 h3 h4 p => p _ H' _ st rl ⟨Da, rfl, h2, h3, zs, h1, h4⟩ fun p hp => by cases hp; exact hD
/-- name = [.. for ..], as the model runs it when the name is a plain local -/
theorem ss_setLc (i : Nat) {y : Str} (hN : X.N.Nodup) (hc : X.calm = true) (hi : SI X B.J (cE B.J.lv) Γ tg iter ms) (ok : BlkOk X.N X.env.scope scope own)
    (hg : ∀ (s : Shared) (H : Hp) (C : Addr) (cl : List (Str × Addr)) (fp : List Addr), STg (X.blk s H scope (compEnvC scope cl C X.env) fp) B.J.C Γ Γ' (own.map (·.2)) tg t gt)
    (ht : ∀ (s : Shared) (H : Hp) (C : Addr) (cl : List (Str × Addr)) (fp : List Addr), STs (X.blk s H scope (compEnvC scope cl C X.env) fp) B.J.blk Γ' ifs mt tt)
    (he : ∀ (s : Shared) (H : Hp) (C : Addr) (cl : List (Str × Addr)) (fp : List Addr), SD (X.blk s H scope (compEnvC scope cl C X.env) fp) B.J.blk Γ' elt me) (hΓ : Γ.getD i false = false := by rfl) (hX : leG B.ΓX Γ = true := by rfl) (hy : X.N[i]? = some y := by rfl) (hyl : X.env.scope.names.lookup y = some .local := by rfl)
    (hsw : swapsWith (.ListComp elt [⟨tg, iter, ifs, 0⟩] scope pos) (some (.Name y py)) spos.line X.env = pure true := by rfl) (hs : ∀ x, foldedSetIterable iter X.env x = pure x := by intro _; rfl) (hca : B.J.C.cau = none := by rfl) :
    SS X B Γ Γ (.Assign [.Name y py] (.ListComp elt [⟨tg, iter, ifs, 0⟩] scope pos) spos) (mPut (tName i) (mLc ms t mt me (own.map (·.2)))) :=
  PS.imp (ps_setLc (te := tD X.K B.J.blk Γ' me) hc hN hy hyl hsw hi ok (fun s H C cl fp => (hg s H C cl fp).1) (fun s H C cl fp => (ht s H C cl fp).1) he hs) fun E σ H q =>
    put_run rfl (fun _ _ _ z => lc_toD hca (hg X.s_0 X.H_0 X.env.locals [] []).2 (ht X.s_0 X.H_0 X.env.locals [] []).2 (fun _ _ _ z => z) z) (tg_name (pos := py) i hN hΓ hy (.inl hyl) (.inr hyl)) hX q
theorem ss_ownLc (i : Nat) {y : Str} (hN : X.N.Nodup) (hc : X.calm = true) (hi : SI X B.J (cE B.J.lv) Γ tg iter ms) (ok : BlkOk X.N X.env.scope scope own)
    (hg : ∀ (s : Shared) (H : Hp) (C : Addr) (cl : List (Str × Addr)) (fp : List Addr), STg (X.blk s H scope (compEnvC scope cl C X.env) fp) B.J.C Γ Γ' (own.map (·.2)) tg t gt)
    (ht : ∀ (s : Shared) (H : Hp) (C : Addr) (cl : List (Str × Addr)) (fp : List Addr), STs (X.blk s H scope (compEnvC scope cl C X.env) fp) B.J.blk Γ' ifs mt tt)
    (he : ∀ (s : Shared) (H : Hp) (C : Addr) (cl : List (Str × Addr)) (fp : List Addr), SD (X.blk s H scope (compEnvC scope cl C X.env) fp) B.J.blk Γ' elt me) (hi' : i < Γ.length := by decide) (hX : leG B.ΓX Γ = true := by rfl) (hy : X.N[i]? = some y := by rfl) (hyl : X.env.scope.names.lookup y = some .local := by rfl)
    (hsw : swapsWith (.ListComp elt [⟨tg, iter, ifs, 0⟩] scope pos) (some (.Name y py)) spos.line X.env = pure true := by rfl) (hs : ∀ x, foldedSetIterable iter X.env x = pure x := by intro _; rfl) (hca : B.J.C.cau = none := by rfl) :
    SS X B Γ (Γ.set i true) (.Assign [.Name y py] (.ListComp elt [⟨tg, iter, ifs, 0⟩] scope pos) spos) (mOwn i (mLc ms t mt me (own.map (·.2)))) :=
  PS.imp (ps_setLc (te := tD X.K B.J.blk Γ' me) hc hN hy hyl hsw hi ok (fun s H C cl fp => (hg s H C cl fp).1) (fun s H C cl fp => (ht s H C cl fp).1) he hs) fun E σ H q =>
    own_run (fun _ _ _ z => lc_toN hca (hg X.s_0 X.H_0 X.env.locals [] []).2 (ht X.s_0 X.H_0 X.env.locals [] []).2 (fun _ _ _ z => z) z) hi' hX q
end
end Sm
set_option Elab.async false
set_option linter.all false
set_option maxRecDepth 100000
set_option maxHeartbeats 4000000
/-! Sim 19: stepping a mirror. -/
namespace Sm
open PySem
theorem sz_eq : sizeLine = 16777216 := by decide
theorem sz_le {n : Nat} (h : n ≤ 16777216) : n ≤ sizeLine := by rw [sz_eq]; exact h
theorem p4 : fPow (.int 10) (.int 4) = some (.int 10000) := by rfl
theorem p9 : fPow (.int 10) (.int 9) = some (.int 1000000000) := by rfl
theorem p12 : fPow (.int 10) (.int 12) = some (.int 1000000000000) := by rfl
theorem p13 : fPow (.int 10) (.int 13) = some (.int 10000000000000) := by rfl
theorem p18 : fPow (.int 10) (.int 18) = some (.int 1000000000000000000) := by rfl
theorem fdiv_at {i j : Int} (h : 0 < j) (h2 : j < 1000000000000000000) : fFdiv (.int i) (.int j) = some (.int (i / j)) := by
  have z : j < 2 ^ 100 := by omega
  show (if 0 < j ∧ j < 2 ^ 100 then some (D.int (i / j)) else none) = _
  rw [if_pos ⟨h, z⟩]
theorem x_tup (xs : List D) (i : Int) : fIx (.tup xs) (.int i) = L2.atI xs i := rfl
theorem x_lst (xs : List D) (i : Int) : fIx (.lst xs) (.int i) = L2.atI xs i := rfl
theorem a_int (i j : Int) : fAdd (.int i) (.int j) = some (.int (i + j)) := rfl
/-! ### the statements, step by step -/
section
variable {a b : Ms} {me mo : Mx D} {mt : Mx Bool} {ma : Mx (List D)} {sl sl' : List (Option D)} {S S' : Sto} {d : D} {r : Rs} {i : Nat} {x : Exc}
theorem e_sq (h1 : a sl S = .next sl' S') (h2 : b sl' S' = r) : mSq a b sl S = r := by unfold mSq; rw [h1]; exact h2
theorem e_sqr (h1 : a sl S = .ret d S') : mSq a b sl S = .ret d S' := by unfold mSq; rw [h1]
theorem e_sqe (h1 : a sl S = .err x sl' S') : mSq a b sl S = .err x sl' S' := by unfold mSq; rw [h1]
theorem e_put (h : me sl S = .ok d S') (hi : i < sl.length := by simp) : mPut (tName i) me sl S = .next (sl.set i (some d)) S' := by unfold mPut bindS; rw [h]; simp [tName, hi]
theorem e_own (h : me sl S = .ok d S') (hi : i < sl.length := by simp) : mOwn i me sl S = .next (sl.set i (some d)) S' := by unfold mOwn bindS; rw [h]; simp [hi]
theorem e_ret (h : me sl S = .ok d S') : mRet me sl S = .ret d S' := by unfold mRet bindS; rw [h]
theorem e_rete (h : me sl S = .err x S') : mRet me sl S = .err x sl S' := by unfold mRet bindS; rw [h]
theorem e_doe (h : me sl S = .err x S') : mDo me sl S = .err x sl S' := by unfold mDo bindS; rw [h]
theorem e_ift (h : mt sl S = .ok true S') (h2 : a sl S' = r) : mIf mt a b sl S = r := by unfold mIf bindS; rw [h]; exact h2
theorem e_iff (h : mt sl S = .ok false S') (h2 : b sl S' = r) : mIf mt a b sl S = r := by unfold mIf bindS; rw [h]; exact h2
theorem e_skip : mSkip sl S = .next sl S := rfl
theorem e_for {t : Tg} {ds : List D} (h : ma sl S = .ok ds S') (h2 : loopF t a ds sl S' = r) : mFor ma t a sl S = r := by unfold mFor bindS; rw [h]; exact h2
theorem e_fn {n N : Nat} {fr : Bool} {m : Ms} {ds : List D} (h : m (ds.map some ++ List.replicate (N - ds.length) none) S = .ret d S') (hl : ds.length = n := by rfl) : mFn n N fr m ds S = .ok d S' := by unfold mFn; rw [if_pos hl, h]
theorem e_fnn {n N : Nat} {m : Ms} {ds : List D} (h : m (ds.map some ++ List.replicate (N - ds.length) none) S = .next sl' S') (hl : ds.length = n := by rfl) : mFn n N false m ds S = .ok .non S' := by unfold mFn; rw [if_pos hl, h]; rfl
theorem e_fne {n N : Nat} {fr : Bool} {m : Ms} {ds : List D} (h : m (ds.map some ++ List.replicate (N - ds.length) none) S = .err x sl' S') (hl : ds.length = n := by rfl) : mFn n N fr m ds S = .err x S' := by unfold mFn; rw [if_pos hl, h]
end
theorem e_lst0 {sl : List (Option D)} {S : Sto} : mLst mNil sl S = .ok (.lst []) S := by simp [mLst, mNil, bindX, pureX, sz_eq]
theorem loop_ind {t : Tg} {mb : Ms} {P : Nat → List (Option D) → Sto → Prop} : ∀ (ds : List D) (k : Nat) (sl : List (Option D)) (S : Sto), P k sl S →
    (∀ i d sl S, ds[i]? = some d → P (k + i) sl S → ∃ sl1 sl2 S2, t d sl = some sl1 ∧ mb sl1 S = .next sl2 S2 ∧ P (k + i + 1) sl2 S2) → ∃ sl' S', loopF t mb ds sl S = .next sl' S' ∧ P (k + ds.length) sl' S'
  | [], k, sl, S, h, _ => ⟨sl, S, rfl, h⟩
  | d :: ds, k, sl, S, h, st => by
    obtain ⟨sl1, sl2, S2, h1, h2, h3⟩ := st 0 d sl S rfl h
    obtain ⟨sl', S', h4, h5⟩ := loop_ind ds (k + 1) sl2 S2 h3 fun i d sl S e p => by
      have q := st (i + 1) d sl S (by simpa using e) (by rw [show k + (i + 1) = k + 1 + i by omega]; exact p)
      rwa [show k + (i + 1) + 1 = k + 1 + i + 1 by omega] at q
    refine ⟨sl', S', ?_, by rw [List.length_cons, show k + (ds.length + 1) = k + 1 + ds.length by omega]; exact h5⟩
    unfold loopF
    simp only [h1, h2, h4]
theorem loopC_fm {t : Tg} {tt : Mx Bool} {el : Mx D} {slw : List (Option D)} {S : Sto} (g : D → Option D) : ∀ (ds acc : List D), acc.length + ds.length < 16777216 →
    (∀ d ∈ ds, ∃ sl', t d slw = some sl' ∧ ((g d = none ∧ tt sl' S = .ok false S) ∨ ∃ y, g d = some y ∧ tt sl' S = .ok true S ∧ el sl' S = .ok y S)) → loopC t tt el slw ds acc S = .ok (acc ++ ds.filterMap g) S
  | [], acc, _, _ => by simp [loopC]
  | d :: ds, acc, hl, h => by
    obtain ⟨sl', h1, h2⟩ := h d List.mem_cons_self
    have hl' : acc.length + (ds.length + 1) < 16777216 := by simpa using hl
    rcases h2 with ⟨h2, h3⟩ | ⟨y, h2, h3, h4⟩
    · unfold loopC
      simp only [h1, h3]
      rw [loopC_fm g ds acc (by omega) fun d hd => h d (List.mem_cons_of_mem _ hd)]
      simp [h2]
    · unfold loopC
      simp only [h1, h3, h4]
      rw [if_pos (by rw [sz_eq]; omega), loopC_fm g ds (acc ++ [y]) (by simp; omega) fun d hd => h d (List.mem_cons_of_mem _ hd)]
      simp [h2]
theorem e_lc {src : Mx (List D)} {t : Tg} {tt : Mx Bool} {el : Mx D} {vs : List Nat} {sl : List (Option D)} {S : Sto} {ds : List D} (g : D → Option D) (hs : src sl S = .ok ds S) (hl : ds.length < 1000000)
    (h : ∀ d ∈ ds, ∃ sl', t d (wipeD sl vs) = some sl' ∧ ((g d = none ∧ tt sl' S = .ok false S) ∨ ∃ y, g d = some y ∧ tt sl' S = .ok true S ∧ el sl' S = .ok y S)) : mLc src t tt el vs sl S = .ok (.lst (ds.filterMap g)) S := by
  unfold mLc
  simp only [hs]
  rw [loopC_fm g ds [] (by simp; omega) h]
  rfl
theorem sm_of {x : Int} (h : 0 ≤ x) (h2 : x < 2147483648) : smallI x = true := by unfold smallI; exact decide_eq_true ⟨by omega, by omega⟩
theorem rng_at {n i : Nat} {d : D} (hi : (rng 0 n)[i]? = some d) : i < n ∧ d = .int i := by
  unfold rng at hi
  rw [List.getElem?_map] at hi
  by_cases q : i < n
  · rw [List.getElem?_range q] at hi
    simp at hi
    exact ⟨q, hi.symm⟩
  · rw [List.getElem?_eq_none (by simpa using q)] at hi
    simp at hi
theorem rng_len {n : Nat} : (rng 0 n).length = n := by simp [rng]
theorem inR_at {n : Int} (h0 : 0 ≤ n) (hn : n < 1000) : inR n = true := by
  have h : -(2 ^ 62 : Int) ≤ n ∧ n < 2 ^ 62 := ⟨by omega, by omega⟩
  simpa [inR] using h
theorem e_rng {ma : Mx D} {sl : List (Option D)} {S S' : Sto} {n : Int} (h : ma sl S = .ok (.int n) S') (h0 : 0 ≤ n) (hn : n < 1000) : mRng kRng1 (mCons ma mNil) sl S = .ok (rng 0 n.toNat) S' := by
  have e : mCons ma mNil sl S = .ok [.int n] S' := by unfold mCons bindX; rw [h]; rfl
  unfold mRng bindX
  rw [e]
  show ofO (if inR n = true then some (rng 0 n.toNat) else none) sl S' = _
  rw [if_pos (inR_at h0 hn)]
  rfl
theorem q_str (a b : Str) : fEq (.str a) (.str b) = some (.bl (decide (a = b))) := rfl
theorem q_int (a b : Int) : fEq (.int a) (.int b) = some (.bl (decide (a = b))) := rfl
theorem n_str (a b : Str) : fNe (.str a) (.str b) = some (.bl (!decide (a = b))) := rfl
theorem n_int (a b : Int) : fNe (.int a) (.int b) = some (.bl (!decide (a = b))) := rfl
theorem n_bl (a b : Bool) : fNe (.bl a) (.bl b) = some (.bl (!decide (a = b))) := rfl
theorem ix_tup {xs : List D} {i : Nat} {x : D} (h : xs[i]? = some x) : fIx (.tup xs) (.int i) = some x := by
  have hi := (List.getElem?_eq_some_iff.mp h).1
  show L2.atI xs i = _
  unfold L2.atI L2.ixN
  rw [if_pos (by omega), if_pos (by omega)]
  exact h
theorem ix_lst {xs : List D} {i : Nat} {x : D} (h : xs[i]? = some x) : fIx (.lst xs) (.int i) = some x := ix_tup h
theorem e_meth {c : Nat} {F : Fn} {Fs : List (Nat × Fn)} {mo : Mx D} {ma : Mx (List D)} {o : D} {ds : List D} {sl : List (Option D)} {S S1 : Sto} (ho : mo sl S = .ok o S) (hc : clsOf S o = some c) (hl : Fs.lookup c = some F) (ha : ma sl S = .ok ds S1) : mMeth Fs mo ma sl S = F (o :: ds) S1 := by
  simp only [mMeth, bindX, ho, hc, Option.bind_some, hl, ha]
theorem e_call2 {F : Fn} {ma mb : Mx D} {a b r : D} {sl : List (Option D)} {S S2 : Sto} (ha : ma sl S = .ok a S) (hb : mb sl S = .ok b S) (h : F [a, b] S = .ok r S2) : mCall F (mCons ma (mCons mb mNil)) sl S = .ok r S2 := by
  simp only [mCall, mCons, mNil, bindX, pureX, ha, hb, h]
theorem e_callV2 {F : Fn} {ma mb : Mx D} {a b r : D} {sl : List (Option D)} {S S2 : Sto} (ha : ma sl S = .ok a S) (hb : mb sl S = .ok b S) (h : F [a, b] S = .ok r S2) (hr : atomD r = true) : mCallV F (mCons ma (mCons mb mNil)) sl S = .ok r S := by
  simp only [mCallV, mCons, mNil, bindX, pureX, ha, hb, h, hr, if_true]
theorem e_nott {m : Mx D} {sl : List (Option D)} {S S2 : Sto} (h : m sl S = .ok (.bl true) S2) : mNotT (mTru m) sl S = .ok false S2 := by
  simp only [mNotT, mTru, bindX, h, ofO, truth, pureX, Bool.not_true]
theorem e_or0 {a b : Mx Bool} {sl : List (Option D)} {S S1 S2 : Sto} (h : a sl S = .ok false S1) (h2 : b sl S1 = .ok false S2) : mOrT a b sl S = .ok false S2 := by
  simp only [mOrT, bindX, h, Bool.false_eq_true, if_false]; exact h2
theorem toInts_map : ∀ l : List Int, toInts (l.map D.int) = some l
  | [] => rfl
  | i :: r => by simp [toInts, toInts_map r]
theorem e_ownapp {i : Nat} {ma : Mx (List D)} {sl : List (Option D)} {S : Sto} {xs : List D} {y : D} (hs : sl[i]? = some (some (.lst xs))) (ha : ma sl S = .ok [y] S) (hl : xs.length < 1000) : mOwnS oAppend i ma (fun _ => mSkip) sl S = .next (sl.set i (some (.lst (xs ++ [y])))) S := by
  have hln : xs.length < sizeLine := by rw [sz_eq]; omega
  unfold mOwnS
  simp only [hs, isLst, if_true, bindS, ha, oAppend, hln]
  rfl
theorem e_setix {i j : Nat} {mi me : Mx D} {sl : List (Option D)} {S : Sto} {xs : List D} {y : D} {z : Int} (hs : sl[i]? = some (some (.lst xs))) (hm : me sl S = .ok y S) (hi : mi sl S = .ok (.int z) S) (hx : L2.ixN xs.length z = some j) : mSetIx i mi me sl S = .next (sl.set i (some (.lst (xs.set j y)))) S := by
  unfold mSetIx
  simp only [bindS, hm, hs, hi, hx]
theorem set_get {S : Sto} {i : Nat} {o o' : Ob} (h : S[i]? = some o) : (S.set i o')[i]? = some o' := List.getElem?_set_self (List.getElem?_eq_some_iff.mp h).1
theorem set_set {S : Sto} {i : Nat} {o o' : Ob} : (S.set i o).set i o' = S.set i o' := List.set_set ..
theorem set_same {S : Sto} {i : Nat} {o : Ob} (h : S[i]? = some o) : S.set i o = S := by
  refine List.ext_getElem? fun j => ?_
  by_cases z : i = j
  · subst z; rw [set_get h, h]
  · rw [List.getElem?_set_ne z]
section
variable {mb : Ms} {cs : List Cl} {m : Mx D} {sl sl' : List (Option D)} {S S' : Sto} {d : D} {x : Exc} {r : Rs}
theorem e_tryr (h : mb sl S = .ret d S') : mTry mb cs sl S = .ret d S' := by unfold mTry; rw [h]
theorem e_trye (h : mb sl S = .err x sl' S') (h2 : mHd cs x sl' S' = r) : mTry mb cs sl S = r := by unfold mTry; rw [h]; exact h2
end
theorem e_callS {F : Fn} {ma mb : Mx D} {a b r : D} {sl : List (Option D)} {S S1 S2 : Sto} (ha : ma sl S = .ok a S1) (hb : mb sl S1 = .ok b S1) (h : F [a, b] S1 = .ok r S2) : mCall F (mCons ma (mCons mb mNil)) sl S = .ok r S2 := by
  simp only [mCall, mCons, mNil, bindX, pureX, ha, hb, h]
theorem e_call3 {F : Fn} {ma mb mc : Mx D} {a b c r : D} {sl : List (Option D)} {S S2 : Sto} (ha : ma sl S = .ok a S) (hb : mb sl S = .ok b S) (hc : mc sl S = .ok c S) (h : F [a, b, c] S = .ok r S2) : mCall F (mCons ma (mCons mb (mCons mc mNil))) sl S = .ok r S2 := by
  simp only [mCall, mCons, mNil, bindX, pureX, ha, hb, hc, h]
theorem e_call4 {F : Fn} {ma mb mc md : Mx D} {a b c d r : D} {sl : List (Option D)} {S S2 : Sto} (ha : ma sl S = .ok a S) (hb : mb sl S = .ok b S) (hc : mc sl S = .ok c S) (hd : md sl S = .ok d S) (h : F [a, b, c, d] S = .ok r S2) : mCall F (mCons ma (mCons mb (mCons mc (mCons md mNil)))) sl S = .ok r S2 := by
  simp only [mCall, mCons, mNil, bindX, pureX, ha, hb, hc, hd, h]
theorem e_op {f : D → D → Option D} {ma mb : Mx D} {x y z : D} {sl : List (Option D)} {S : Sto} (ha : ma sl S = .ok x S) (hb : mb sl S = .ok y S) (hf : f x y = some z) : mOp f ma mb sl S = .ok z S := by
  simp only [mOp, bindX, ha, hb, hf, ofO]
theorem ix_ex {xs : List D} {k : Int} (h : 0 ≤ k) (h2 : k < xs.length) : ∃ x ∈ xs, fIx (.lst xs) (.int k) = some x := by
  have hk : k.toNat < xs.length := by omega
  refine ⟨xs[k.toNat], List.getElem_mem _, ?_⟩
  show L2.atI xs k = _
  unfold L2.atI L2.ixN
  rw [if_pos h, if_pos h2]
  show xs[k.toNat]? = _
  simp [hk]
section
variable {m1 m2 m3 m4 m5 : Mx D} {a b c d e : D} {sl : List (Option D)} {S : Sto}
theorem e_tup5 (h1 : m1 sl S = .ok a S) (h2 : m2 sl S = .ok b S) (h3 : m3 sl S = .ok c S) (h4 : m4 sl S = .ok d S) (h5 : m5 sl S = .ok e S) : mTup (mCons m1 (mCons m2 (mCons m3 (mCons m4 (mCons m5 mNil))))) sl S = .ok (.tup [a, b, c, d, e]) S := by
  simp [mTup, mCons, mNil, bindX, pureX, h1, h2, h3, h4, h5, sz_eq]
theorem e_tup2 (h1 : m1 sl S = .ok a S) (h2 : m2 sl S = .ok b S) : mTup (mCons m1 (mCons m2 mNil)) sl S = .ok (.tup [a, b]) S := by
  simp [mTup, mCons, mNil, bindX, pureX, h1, h2, sz_eq]
end
theorem strs_map : ∀ l : List Str, toStrs (l.map D.str) = some l
  | [] => rfl
  | x :: r => by simp [toStrs, strs_map r]
section
variable {ma mb : Mx D} {sl : List (Option D)} {S : Sto}
theorem e_m1 {f : Str → D → Option D} {a : Str} {y z : D} (ha : ma sl S = .ok (.str a) S) (hb : mb sl S = .ok y S) (hf : f a y = some z) : mM1 f ma mb sl S = .ok z S := by
  simp only [mM1, bindX, ha, hb, hf, ofO]
theorem e_int {v : Int} (ha : ma sl S = .ok (.int v) S) : mCal kInt (mCons ma mNil) sl S = .ok (.int v) S := by
  simp only [mCal, mCons, mNil, bindX, pureX, ha, kInt, ofO]
theorem e_slh {d z : D} {h : Int} (ha : ma sl S = .ok d S) (hb : mb sl S = .ok (.int h) S) (hf : fSl d none (some h) = some z) : mSl ma none (some mb) sl S = .ok z S := by
  have h3 : mPart none sl S = .ok none S := by simp [mPart, pureX]
  have h2 : mPart (some mb) sl S = .ok (some h) S := by simp [mPart, bindX, hb, pureX]
  simp only [mSl, bindX, ha, h3, h2, hf, ofO]
theorem e_sll {d z : D} {h : Int} (ha : ma sl S = .ok d S) (hb : mb sl S = .ok (.int h) S) (hf : fSl d (some h) none = some z) : mSl ma (some mb) none sl S = .ok z S := by
  have h3 : mPart none sl S = .ok none S := by simp [mPart, pureX]
  have h2 : mPart (some mb) sl S = .ok (some h) S := by simp [mPart, bindX, hb, pureX]
  simp only [mSl, bindX, ha, h3, h2, hf, ofO]
theorem e_mod {v j : Int} (ha : ma sl S = .ok (.int v) S) (hb : mb sl S = .ok (.int j) S) (hj : 0 < j) : mOp fMod ma mb sl S = .ok (.int (v % j)) S := e_op ha hb (by show (if 0 < j then some (D.int (v % j)) else none) = _; rw [if_pos hj])
theorem e_add {v j : Int} (ha : ma sl S = .ok (.int v) S) (hb : mb sl S = .ok (.int j) S) : mOp fAdd ma mb sl S = .ok (.int (v + j)) S := e_op ha hb rfl
theorem e_lst3 {mc : Mx D} {a b c : D} (ha : ma sl S = .ok a S) (hb : mb sl S = .ok b S) (hc : mc sl S = .ok c S) : mLst (mCons ma (mCons mb (mCons mc mNil))) sl S = .ok (.lst [a, b, c]) S := by
  simp [mLst, mCons, mNil, bindX, pureX, ha, hb, hc, sz_eq]
end
theorem e_call1 {F : Fn} {ma : Mx D} {a r : D} {sl : List (Option D)} {S S1 S2 : Sto} (ha : ma sl S = .ok a S1) (h : F [a] S1 = .ok r S2) : mCall F (mCons ma mNil) sl S = .ok r S2 := by
  simp only [mCall, mCons, mNil, bindX, pureX, ha, h]
theorem e_lst2 {ma mb : Mx D} {a b : D} {sl : List (Option D)} {S S1 S2 : Sto} (ha : ma sl S = .ok a S1) (hb : mb sl S1 = .ok b S2) : mLst (mCons ma (mCons mb mNil)) sl S = .ok (.lst [a, b]) S2 := by
  simp [mLst, mCons, mNil, bindX, pureX, ha, hb, sz_eq]
theorem e_and {a b : Mx D} {r : D} {sl : List (Option D)} {S S1 S2 : Sto} (ha : a sl S = .ok (.bl true) S1) (hb : b sl S1 = .ok r S2) : mAnd a b sl S = .ok r S2 := by
  simp only [mAnd, bindX, ha, truth, ofO, if_true]; exact hb
theorem e_neg1 {sl : List (Option D)} {S : Sto} : mUn fNeg (mC (.int 1)) sl S = .ok (.int (-1)) S := by simp [mUn, mC, bindX, fNeg, ofO]
theorem sub_int (i j : Int) : fSub (.int i) (.int j) = some (.int (i - j)) := rfl
end Sm
set_option Elab.async false
set_option linter.all false
set_option maxRecDepth 100000
set_option maxHeartbeats 1000000
/-! Wp: what a mirror does, by continuations. -/
namespace Sm
open PySem
abbrev Sl := List (Option D)
section
variable {α : Type}
@[irreducible] def wE (m : Mx α) (sl : Sl) (S : Sto) (Q : α → Sto → Prop) (X : Exc → Sto → Prop) : Prop := match m sl S with
  | .ok a S' => Q a S'
  | .err x S' => X x S'
  | .stuck => False
def wO (o : Option α) (Q : α → Prop) : Prop := ∃ z, o = some z ∧ Q z
end
@[irreducible] def wT (m : Mx Bool) (sl : Sl) (S : Sto) (Qt Qf : Sto → Prop) (X : Exc → Sto → Prop) : Prop := match m sl S with
  | .ok true S' => Qt S'
  | .ok false S' => Qf S'
  | .err x S' => X x S'
  | .stuck => False
@[irreducible] def wS (m : Ms) (sl : Sl) (S : Sto) (N : Sl → Sto → Prop) (R : Rs → Prop) : Prop := match m sl S with
  | .next sl' S' => N sl' S'
  | .stuck => False
  | r => R r
@[irreducible] def wF (F : Fn) (ds : List D) (S : Sto) (Q : D → Sto → Prop) (X : Exc → Sto → Prop) : Prop := match F ds S with
  | .ok d S' => Q d S'
  | .err x S' => X x S'
  | .stuck => False
/-- a truth value decides -/
def wB (d : D) (P P' : Prop) : Prop := ∃ b, d = .bl b ∧ (b = true → P) ∧ (b = false → P')
def rF (Q : D → Sto → Prop) (X : Exc → Sto → Prop) : Rs → Prop
  | .ret d S => Q d S
  | .err x _ S => X x S
  | _ => False
def rL (C N : Sl → Sto → Prop) (R : Rs → Prop) : Rs → Prop
  | .cont sl S => C sl S
  | .brk sl S => N sl S
  | r => R r
section
variable {α β : Type} {f2 : D → D → Option D} {f1 : D → Option D} {a b c : Mx D} {ms : Mx (List D)} {ta tb : Mx Bool} {sl sl' : Sl} {S S' : Sto} {Q : D → Sto → Prop} {X : Exc → Sto → Prop} {Qt Qf : Sto → Prop} {d e : D} {i j : Nat} {k : List D → Option D} {N : Sl → Sto → Prop} {R : Rs → Prop} {ma mb : Ms} {P P' : Prop}
/-! expressions -/
theorem w_eq {m m' : Mx α} {Q : α → Sto → Prop} (e : m sl S = m' sl S) (h : wE m' sl S Q X) : wE m sl S Q X := by
  unfold wE at *
  rw [e]
  exact h
theorem s_eq {m m' : Ms} (e : m sl S = m' sl S) (h : wS m' sl S N R) : wS m sl S N R := by
  unfold wS at *
  rw [e]
  exact h
theorem w_C (h : Q d S) : wE (mC d) sl S Q X := by unfold wE; exact h
theorem w_var (e : sl[i]? = some (some d)) (h : Q d S) : wE (mVar i) sl S Q X := by unfold wE mVar; rw [e]; exact h
theorem w_bind {m : Mx α} {f : α → Mx β} {Q : β → Sto → Prop} (h : wE m sl S (fun x S1 => wE (f x) sl S1 Q X) X) : wE (bindX m f) sl S Q X := by
  unfold wE bindX at *
  cases q : m sl S <;> simp only [q] at h ⊢ <;> exact h
theorem w_ofO {o : Option α} {Q : α → Sto → Prop} (h : wO o fun z => Q z S) : wE (ofO o) sl S Q X := by
  obtain ⟨z, rfl, h⟩ := h
  unfold wE
  exact h
theorem w_imp {m : Mx α} {Q Q' : α → Sto → Prop} (h : wE m sl S Q X) (k : ∀ a S', Q a S' → Q' a S') : wE m sl S Q' X := by
  unfold wE at *
  cases q : m sl S with
  | ok x S1 => rw [q] at h; exact k _ _ h
  | err x S1 => rw [q] at h; exact h
  | stuck => rw [q] at h; exact h
theorem w_op (h : wE a sl S (fun x S1 => wE b sl S1 (fun y S2 => wO (f2 x y) fun z => Q z S2) X) X) : wE (mOp f2 a b) sl S Q X := w_bind (w_imp h fun _ _ q => w_bind (w_imp q fun _ _ z => w_ofO z))
theorem w_un (h : wE a sl S (fun x S1 => wO (f1 x) fun z => Q z S1) X) : wE (mUn f1 a) sl S Q X := w_bind (w_imp h fun _ _ q => w_ofO q)
theorem w_nil {Q : List D → Sto → Prop} (h : Q [] S) : wE mNil sl S Q X := by unfold wE; exact h
theorem w_pure {x : α} {Q : α → Sto → Prop} (h : Q x S) : wE (pureX x) sl S Q X := by unfold wE; exact h
theorem w_cons {Q : List D → Sto → Prop} (h : wE a sl S (fun x S1 => wE ms sl S1 (fun xs S2 => Q (x :: xs) S2) X) X) : wE (mCons a ms) sl S Q X := w_bind (w_imp h fun _ _ q => w_bind (w_imp q fun _ _ z => w_pure z))
theorem w_lst (h : wE ms sl S (fun ds S1 => ds.length ≤ 16777216 ∧ Q (.lst ds) S1) X) : wE (mLst ms) sl S Q X := w_bind (w_imp h fun _ _ q => by rw [if_pos (sz_le q.1)]; exact w_pure q.2)
theorem w_tup (h : wE ms sl S (fun ds S1 => ds.length ≤ 16777216 ∧ Q (.tup ds) S1) X) : wE (mTup ms) sl S Q X := w_bind (w_imp h fun _ _ q => by rw [if_pos (sz_le q.1)]; exact w_pure q.2)
theorem w_cal (h : wE ms sl S (fun ds S1 => wO (k ds) fun z => Q z S1) X) : wE (mCal k ms) sl S Q X := w_bind (w_imp h fun _ _ q => w_ofO q)
theorem wF_E {F : Fn} {ds : List D} (h : wF F ds S Q X) : wE (fun _ S' => F ds S') sl S Q X := by
  unfold wF at h
  unfold wE
  cases q : F ds S <;> simp only [q] at h ⊢ <;> exact h
theorem w_call {F : Fn} (h : wE ms sl S (fun ds S1 => wF F ds S1 Q X) X) : wE (mCall F ms) sl S Q X := w_bind (w_imp h fun _ _ q => wF_E q)
theorem w_callV {F : Fn} (h : wE ms sl S (fun ds S1 => wF F ds S1 (fun d S2 => atomD d = true ∧ Q d S1) fun _ _ => False) X) : wE (mCallV F ms) sl S Q X := w_bind (w_imp h fun ds S1 q => by
  unfold wF at q
  unfold wE
  cases e : F ds S1 with
  | ok d S2 => simp only [e] at q ⊢; rw [if_pos q.1]; exact q.2
  | err x S2 => simp only [e] at q
  | stuck => simp only [e] at q)
theorem w_meth {c : Nat} {F : Fn} (h : wE a sl S (fun o S1 => clsOf S1 o = some c ∧ wE ms sl S1 (fun ds S2 => wF F (o :: ds) S2 Q X) X) X) : wE (mMeth [(c, F)] a ms) sl S Q X := w_bind (w_imp h fun o S1 q =>
  w_eq (m' := bindX ms (fun ds _ S' => F (o :: ds) S')) (by simp only [q.1, Option.bind_some, List.lookup, beq_self_eq_true]) (w_bind (w_imp q.2 fun _ _ z => wF_E z)))
theorem w_fld {cs : List (Nat × Nat)} (h : wE a sl S (fun o S1 => wO (rdF cs o S1) fun z => Q z S1) X) : wE (mFld cs a) sl S Q X := w_bind (w_imp h fun o S1 q => by
  obtain ⟨z, e, q⟩ := q
  unfold wE
  simp only [e]
  exact q)
theorem w_mk {c nf : Nat} {F : Fn} (h : wE ms sl S (fun ds S1 => wF F (.ref S1.length :: ds) (S1 ++ [⟨c, List.replicate nf none⟩]) (fun d S2 => d = .non ∧ Q (.ref S1.length) S2) X) X) : wE (mMk c nf F ms) sl S Q X := w_bind (w_imp h fun ds S1 q => by
  unfold wF at q
  unfold wE mkObj
  cases e : F (.ref S1.length :: ds) (S1 ++ [⟨c, List.replicate nf none⟩]) with
  | ok d S2 => rw [e] at q; obtain ⟨rfl, q⟩ := q; exact q
  | err x S2 => rw [e] at q; exact q
  | stuck => rw [e] at q; exact q)
theorem w_perm {n : Nat} {perm : List Nat} {Q : List D → Sto → Prop} (h : wE ms sl S (fun ds S1 => ds.length = n ∧ Q (permD perm ds) S1) X) : wE (mPerm n perm ms) sl S Q X := w_bind (w_imp h fun ds S1 q => by
  unfold wE
  simp only [q.1, if_true]
  exact q.2)
theorem w_m1 {f : Str → D → Option D} (h : wE a sl S (fun o S1 => ∃ s, o = .str s ∧ wE b sl S1 (fun y S2 => wO (f s y) fun z => Q z S2) X) X) : wE (mM1 f a b) sl S Q X := w_bind (w_imp h fun o S1 q => by
  obtain ⟨s, rfl, q⟩ := q
  exact w_bind (w_imp q fun _ _ z => w_ofO z))
theorem w_part0 {Q : Option Int → Sto → Prop} (h : Q none S) : wE (mPart none) sl S Q X := w_pure h
theorem w_part {Q : Option Int → Sto → Prop} (h : wE a sl S (fun d S1 => ∃ i, d = .int i ∧ Q (some i) S1) X) : wE (mPart (some a)) sl S Q X := w_bind (w_imp h fun d S1 q => by
  obtain ⟨i, rfl, q⟩ := q
  exact w_pure q)
theorem w_sl {lo hi : Option (Mx D)} (h : wE a sl S (fun d S1 => wE (mPart lo) sl S1 (fun l S2 => wE (mPart hi) sl S2 (fun u S3 => wO (fSl d l u) fun z => Q z S3) X) X) X) : wE (mSl a lo hi) sl S Q X :=
  w_bind (w_imp h fun _ _ q => w_bind (w_imp q fun _ _ q => w_bind (w_imp q fun _ _ q => w_ofO q)))
/-! tests -/
theorem wT_of {m : Mx Bool} (h : wE m sl S (fun k S1 => (k = true → Qt S1) ∧ (k = false → Qf S1)) X) : wT m sl S Qt Qf X := by
  unfold wE at h
  unfold wT
  cases q : m sl S with
  | ok k S1 =>
    rw [q] at h
    cases k with
    | true => exact h.1 rfl
    | false => exact h.2 rfl
  | err x S1 => rw [q] at h; exact h
  | stuck => rw [q] at h; exact h
theorem wT_to {m : Mx Bool} (h : wT m sl S Qt Qf X) : wE m sl S (fun k S1 => (k = true → Qt S1) ∧ (k = false → Qf S1)) X := by
  unfold wT at h
  unfold wE
  cases q : m sl S with
  | ok k S1 =>
    rw [q] at h
    cases k with
    | true => exact ⟨fun _ => h, fun z => nomatch z⟩
    | false => exact ⟨fun z => (nomatch z), fun _ => h⟩
  | err x S1 => rw [q] at h; exact h
  | stuck => rw [q] at h; exact h
theorem t_tst (h : wE a sl S (fun d S1 => wB d (Qt S1) (Qf S1)) X) : wT (mTst a) sl S Qt Qf X := wT_of (w_bind (w_imp h fun d S1 q => by
  obtain ⟨b, rfl, q⟩ := q
  exact w_ofO ⟨b, rfl, q⟩))
theorem t_tru (h : wE a sl S (fun d S1 => wO (truth d) fun b => wB (.bl b) (Qt S1) (Qf S1)) X) : wT (mTru a) sl S Qt Qf X := wT_of (w_bind (w_imp h fun d S1 q => by
  obtain ⟨z, e, b, e2, q⟩ := q
  cases e2
  exact w_ofO ⟨z, e, q⟩))
theorem t_and (h : wT ta sl S (fun S1 => wT tb sl S1 Qt Qf X) Qf X) : wT (mAndT ta tb) sl S Qt Qf X := wT_of (w_bind (w_imp (wT_to h) fun k S1 q => by
  cases k with
  | true => exact wT_to (q.1 rfl)
  | false => exact w_pure ⟨fun z => (nomatch z), fun _ => q.2 rfl⟩))
theorem t_or (h : wT ta sl S Qt (fun S1 => wT tb sl S1 Qt Qf X) X) : wT (mOrT ta tb) sl S Qt Qf X := wT_of (w_bind (w_imp (wT_to h) fun k S1 q => by
  cases k with
  | true => exact w_pure ⟨fun _ => q.1 rfl, fun z => nomatch z⟩
  | false => exact wT_to (q.2 rfl)))
theorem t_not (h : wT ta sl S Qf Qt X) : wT (mNotT ta) sl S Qt Qf X := wT_of (w_bind (w_imp (wT_to h) fun k S1 q => by
  cases k with
  | true => exact w_pure ⟨fun z => (nomatch z), fun _ => q.1 rfl⟩
  | false => exact w_pure ⟨fun _ => q.2 rfl, fun z => nomatch z⟩))
theorem t_yes (h : Qt S) : wT mYes sl S Qt Qf X := by unfold wT; exact h
theorem w_and (h : wE a sl S (fun x S1 => wO (truth x) fun k => wB (.bl k) (wE b sl S1 Q X) (Q x S1)) X) : wE (mAnd a b) sl S Q X := w_bind (w_imp h fun x S1 q => w_bind (w_ofO (by
  obtain ⟨z, e, k, e2, q1, q2⟩ := q
  cases e2
  refine ⟨z, e, ?_⟩
  cases z with
  | true => exact q1 rfl
  | false => exact w_pure (q2 rfl))))
theorem w_or (h : wE a sl S (fun x S1 => wO (truth x) fun k => wB (.bl k) (Q x S1) (wE b sl S1 Q X)) X) : wE (mOr a b) sl S Q X := w_bind (w_imp h fun x S1 q => w_bind (w_ofO (by
  obtain ⟨z, e, k, e2, q1, q2⟩ := q
  cases e2
  refine ⟨z, e, ?_⟩
  cases z with
  | true => exact w_pure (q1 rfl)
  | false => exact q2 rfl)))
theorem w_not (h : wE a sl S (fun x S1 => wO (truth x) fun k => Q (.bl (!k)) S1) X) : wE (mNot a) sl S Q X := w_bind (w_imp h fun x S1 q => w_ofO (by
  obtain ⟨z, e, q⟩ := q
  exact ⟨_, by rw [e]; rfl, q⟩))
theorem w_ife (h : wT ta sl S (fun S1 => wE a sl S1 Q X) (fun S1 => wE b sl S1 Q X) X) : wE (mIfE ta a b) sl S Q X := w_bind (w_imp (wT_to h) fun k S1 q => by
  cases k with
  | true => exact q.1 rfl
  | false => exact q.2 rfl)
/-! decisions -/
theorem b_yes {p : Prop} [Decidable p] (e : p) (h : P) : wB (.bl (decide p)) P P' := ⟨_, rfl, fun _ => h, fun z => by simp [e] at z⟩
theorem b_no {p : Prop} [Decidable p] (e : ¬ p) (h : P') : wB (.bl (decide p)) P P' := ⟨_, rfl, fun z => by simp [e] at z, fun _ => h⟩
theorem b_dec {p : Prop} [Decidable p] (h : p → P) (h' : ¬ p → P') : wB (.bl (decide p)) P P' := ⟨_, rfl, fun z => h (of_decide_eq_true z), fun z => h' (of_decide_eq_false z)⟩
theorem b_neg {k : Bool} (h : wB (.bl k) P' P) : wB (.bl (!k)) P P' := by
  obtain ⟨b, e, h1, h2⟩ := h
  cases e
  exact ⟨_, rfl, fun z => h2 (by cases k <;> simp_all), fun z => h1 (by cases k <;> simp_all)⟩
theorem b_true (h : P) : wB (.bl true) P P' := ⟨_, rfl, fun _ => h, fun z => nomatch z⟩
theorem b_false (h : P') : wB (.bl false) P P' := ⟨_, rfl, fun z => (nomatch z), fun _ => h⟩
theorem b_var {k : Bool} (h : k = true → P) (h' : k = false → P') : wB (.bl k) P P' := ⟨_, rfl, h, h'⟩
/-! values of operations -/
section
variable {Q : D → Prop} {x y : Int}
theorem o_some {z : D} (h : Q z) : wO (some z) Q := ⟨z, rfl, h⟩
theorem o_iz {o : Option D} {z : D} (e : o = some z) (h : Q z) : wO o Q := ⟨z, e, h⟩
theorem o_mul (hx : smallI x = true ∨ smallI y = true) (h : Q (.int (x * y))) : wO (fMul (.int x) (.int y)) Q := ⟨_, by show (if _ then _ else _) = _; rw [if_pos hx], h⟩
theorem o_mod (hx : 0 < y) (h : Q (.int (x % y))) : wO (fMod (.int x) (.int y)) Q := ⟨_, by show (if _ then _ else _) = _; rw [if_pos hx], h⟩
theorem o_fdiv (hx : 0 < y) (hy : y < 1000000000000000000) (h : Q (.int (x / y))) : wO (fFdiv (.int x) (.int y)) Q := ⟨_, fdiv_at hx hy, h⟩
theorem o_ixl {xs : List D} {z : D} (e : L2.atI xs x = some z) (h : Q z) : wO (fIx (.lst xs) (.int x)) Q := ⟨z, e, h⟩
theorem o_ixt {xs : List D} {z : D} (e : L2.atI xs x = some z) (h : Q z) : wO (fIx (.tup xs) (.int x)) Q := ⟨z, e, h⟩
theorem o_truthi {Q : Bool → Prop} (h : Q (!decide (x = 0))) : wO (truth (.int x)) Q := ⟨_, rfl, by rw [show (x != 0) = !decide (x = 0) from by by_cases q : x = 0 <;> simp [q]]; exact h⟩
theorem o_truthl {Q : Bool → Prop} {xs : List D} (h : Q (!decide (xs = []))) : wO (truth (.lst xs)) Q := ⟨_, rfl, by cases xs <;> simpa using h⟩
theorem o_trutht {Q : Bool → Prop} {xs : List D} (h : Q (!decide (xs = []))) : wO (truth (.tup xs)) Q := ⟨_, rfl, by cases xs <;> simpa using h⟩
theorem o_truthb {Q : Bool → Prop} {k : Bool} (h : Q k) : wO (truth (.bl k)) Q := ⟨_, rfl, h⟩
theorem o_truths {Q : Bool → Prop} {k : Str} (hk : k.length ≤ 16777216) (h : Q (!decide (k.length = 0))) : wO (truth (.str k)) Q := ⟨_, by show (if _ then _ else _) = _; rw [if_pos (sz_le hk)], by rw [show ((k.length : Int) != 0) = !decide (k.length = 0) from by by_cases q : k.length = 0 <;> simp [q]]; exact h⟩
theorem o_truthn {Q : Bool → Prop} (h : Q false) : wO (truth .non) Q := ⟨_, rfl, h⟩
theorem o_catl {xs ys : List D} (hs : xs.length + ys.length ≤ 16777216) (h : Q (.lst (xs ++ ys))) : wO (fAdd (.lst xs) (.lst ys)) Q := ⟨_, by show (if _ then _ else _) = _; rw [if_pos (sz_le hs)], h⟩
theorem o_catt {xs ys : List D} (hs : xs.length + ys.length ≤ 16777216) (h : Q (.tup (xs ++ ys))) : wO (fAdd (.tup xs) (.tup ys)) Q := ⟨_, by show (if _ then _ else _) = _; rw [if_pos (sz_le hs)], h⟩
theorem o_cats {xs ys : Str} (hs : xs.length + ys.length ≤ 16777216) (h : Q (.str (xs ++ ys))) : wO (fAdd (.str xs) (.str ys)) Q := ⟨_, by show (if _ then _ else _) = _; rw [if_pos (sz_le hs)], h⟩
end
/-! statements -/
theorem s_imp {N' : Sl → Sto → Prop} (h : wS ma sl S N R) (k : ∀ sl' S', N sl' S' → N' sl' S') : wS ma sl S N' R := by
  unfold wS at *
  cases q : ma sl S <;> rw [q] at h <;> first | exact k _ _ h | exact h
theorem s_bind {m : Mx α} {f : α → Ms} (h : wE m sl S (fun x S1 => wS (f x) sl S1 N R) fun x S1 => R (.err x sl S1)) : wS (bindS m f) sl S N R := by
  unfold wE at h
  cases q : m sl S with
  | ok x S1 => rw [q] at h; unfold wS bindS at *; rw [q]; exact h
  | err x S1 => rw [q] at h; unfold wS bindS; rw [q]; exact h
  | stuck => rw [q] at h; exact h.elim
theorem s_sq (h : wS ma sl S (fun sl1 S1 => wS mb sl1 S1 N R) R) : wS (mSq ma mb) sl S N R := by
  unfold wS at h
  cases q : ma sl S <;> rw [q] at h <;> unfold wS mSq <;> rw [q] <;> exact h
theorem s_skip (h : N sl S) : wS mSkip sl S N R := by unfold wS; exact h
theorem s_put {t : Tg} (h : wE a sl S (fun d S1 => wO (t d sl) fun sl' => N sl' S1) fun x S1 => R (.err x sl S1)) : wS (mPut t a) sl S N R := s_bind (w_imp h fun d S1 q => by
  obtain ⟨z, e, q⟩ := q
  unfold wS
  simp only [e]
  exact q)
theorem o_name {sl1 : Sl} {Q : Sl → Prop} (hi : i < sl.length) (e : sl.set i (some d) = sl1) (h : Q sl1) : wO (tName i d sl) Q := ⟨_, by show (if _ then _ else _) = _; rw [if_pos hi, e], h⟩
theorem s_own (h : wE a sl S (fun d S1 => wO (tName i d sl) fun sl' => N sl' S1) fun x S1 => R (.err x sl S1)) : wS (mOwn i a) sl S N R := s_bind (w_imp h fun d S1 q => by
  obtain ⟨z, e, q⟩ := q
  unfold tName at e
  unfold wS
  split at e
  · rename_i hi
    cases e
    simp only [hi, if_true]
    exact q
  · cases e)
theorem s_do (h : wE a sl S (fun _ S1 => N sl S1) fun x S1 => R (.err x sl S1)) : wS (mDo a) sl S N R := s_bind (w_imp h fun _ _ q => by unfold wS; exact q)
theorem s_ret (h : wE a sl S (fun d S1 => R (.ret d S1)) fun x S1 => R (.err x sl S1)) : wS (mRet a) sl S N R := s_bind (w_imp h fun _ _ q => by unfold wS; exact q)
theorem s_retN (h : R (.ret .non S)) : wS mRetN sl S N R := by unfold wS; exact h
theorem s_if (h : wT ta sl S (fun S1 => wS ma sl S1 N R) (fun S1 => wS mb sl S1 N R) fun x S1 => R (.err x sl S1)) : wS (mIf ta ma mb) sl S N R := s_bind (w_imp (wT_to h) fun k S1 q => by
  cases k with
  | true => exact q.1 rfl
  | false => exact q.2 rfl)
theorem s_brk (h : R (.brk sl S)) : wS mBrk sl S N R := by unfold wS; exact h
theorem s_cont (h : R (.cont sl S)) : wS mCont sl S N R := by unfold wS; exact h
theorem s_for {t : Tg} {src : Mx (List D)} (h : wE src sl S (fun ds S1 => wS (loopF t ma ds) sl S1 N R) fun x S1 => R (.err x sl S1)) : wS (mFor src t ma) sl S N R := s_bind h
theorem s_raise {c n : Nat} (h : wE ms sl S (fun ds S1 => ds.length = n ∧ R (.err ⟨c, ds⟩ sl S1)) fun x S1 => R (.err x sl S1)) : wS (mRaise c n ms) sl S N R := s_bind (w_imp h fun ds S1 q => by
  unfold wS
  simp only [q.1, if_true]
  exact q.2)
theorem s_setF {c k : Nat} (h : wE b sl S (fun d S1 => wE a sl S1 (fun r S2 => wO (wrF c k d r S2) fun S3 => N sl S3) fun x S1 => R (.err x sl S1)) fun x S1 => R (.err x sl S1)) : wS (mSetF c k a b) sl S N R :=
  s_bind (w_imp h fun d S1 q => s_bind (w_imp q fun r S2 q => by
    obtain ⟨z, e, q⟩ := q
    unfold wS
    simp only [e]
    exact q))
theorem s_ownS {f : D → List D → Option (D × D)} {kk : D → Ms} (e : sl[i]? = some (some d)) (hl : isLst d = true) (h : wE ms sl S (fun as S1 => wO (f d as) fun p => wO (tName i p.2 sl) fun sl' => wS (kk p.1) sl' S1 N R) fun x S1 => R (.err x sl S1)) : wS (mOwnS f i ms kk) sl S N R := by
  have hi := (List.getElem?_eq_some_iff.mp e).1
  have z : mOwnS f i ms kk sl S = bindS ms (fun as sl S => match f d as with
    | some (z, d') => kk z (sl.set i (some d')) S
    | none => .stuck) sl S := by
    unfold mOwnS
    rw [e]
    simp only [hl, if_true] <;> rfl
  refine s_eq z ?_
  refine s_bind (N := N) (R := R) (w_imp h fun as S1 q => ?_)
  obtain ⟨⟨z, d'⟩, e2, sl2, e3, q⟩ := q
  have e3 : (if i < sl.length then some (sl.set i (some d')) else none) = some sl2 := e3
  rw [if_pos hi] at e3
  cases e3
  unfold wS at q ⊢
  simp only [e2]
  exact q
theorem o_app {xs : List D} {y : D} {Q : D × D → Prop} (hs : xs.length < 16777216) (h : Q (.non, .lst (xs ++ [y]))) : wO (oAppend (.lst xs) [y]) Q := ⟨_, by show (if _ then _ else _) = _; rw [if_pos (by rw [sz_eq]; exact hs)], h⟩
theorem o_pop {xs : List D} {y : D} {Q : D × D → Prop} (e : xs.getLast? = some y) (h : Q (y, .lst xs.dropLast)) : wO (oPop (.lst xs) []) Q := ⟨(y, .lst xs.dropLast), by simp only [oPop, e], h⟩
theorem s_setIx {mi me : Mx D} {xs : List D} (e : ∀ S1 : Sto, sl[i]? = some (some (.lst xs))) (h : wE me sl S (fun d S1 => wE mi sl S1 (fun k S2 => ∃ z, k = .int z ∧ wO (L2.ixN xs.length z) fun j => wO (tName i (.lst (xs.set j d)) sl) fun sl' => N sl' S2) fun x S1 => R (.err x sl S1)) fun x S1 => R (.err x sl S1)) : wS (mSetIx i mi me) sl S N R :=
  s_bind (w_imp h fun d S1 q => by
    have hi := (List.getElem?_eq_some_iff.mp (e S1)).1
    refine s_eq (m' := bindS mi (fun k sl S => match k with
      | .int z => match L2.ixN xs.length z with
        | some j => .next (sl.set i (some (.lst (xs.set j d)))) S
        | none => .stuck
      | _ => .stuck)) ?_ (s_bind (w_imp q fun k S2 q => ?_))
    · simp only [e S1] <;> rfl
    obtain ⟨z, rfl, j, ej, sl2, e3, q⟩ := q
    have e3 : (if i < sl.length then some (sl.set i (some (.lst (xs.set j d)))) else none) = some sl2 := e3
    rw [if_pos hi] at e3
    cases e3
    unfold wS
    simp only [ej]
    exact q)
theorem s_ownF {f : D → List D → Option (D × D)} {c k : Nat} {kk : D → Ms} (h : wE a sl S (fun r S1 => ∃ i ob d0, r = .ref i ∧ getF c k r S1 = some (i, ob, d0) ∧ isLst d0 = true ∧ wE ms sl S1 (fun as S2 => ∃ ob2 d2, getF c k r S2 = some (i, ob2, d2) ∧ wO (f d2 as) fun p => wS (kk p.1) sl (S2.set i ⟨ob2.c, ob2.fs.set k (some p.2)⟩) N R) fun x S1 => R (.err x sl S1)) fun x S1 => R (.err x sl S1)) : wS (mOwnF f c k a ms kk) sl S N R :=
  s_bind (w_imp h fun r S1 q => by
    obtain ⟨i, ob, d0, rfl, e, hl, q⟩ := q
    refine s_eq (m' := bindS ms (fun as sl S2 => match getF c k (.ref i) S2 with
      | some (i, ob, d2) => match f d2 as with
        | some (z, d') => kk z sl (S2.set i ⟨ob.c, ob.fs.set k (some d')⟩)
        | none => .stuck
      | none => .stuck)) ?_ (s_bind (w_imp q fun as S2 q => ?_))
    · simp only [e, hl, if_true] <;> rfl
    obtain ⟨ob2, d2, e2, ⟨z, d'⟩, e3, q⟩ := q
    unfold wS at q ⊢
    simp only [e2, e3]
    exact q)
/-! functions -/
theorem f_fn {n M : Nat} {m : Ms} {ds : List D} (hl : ds.length = n) (h : wS m (ds.map some ++ List.replicate (M - ds.length) none) S (fun _ S1 => Q .non S1) (rF Q X)) : wF (mFn n M false m) ds S Q X := by
  unfold wF mFn
  rw [if_pos hl]
  unfold wS at h
  cases q : m (ds.map some ++ List.replicate (M - ds.length) none) S <;> simp only [q] at h ⊢ <;> first | exact h | exact h.elim
theorem f_fnF {n M : Nat} {m : Ms} {ds : List D} (hl : ds.length = n) (h : wS m (ds.map some ++ List.replicate (M - ds.length) none) S (fun _ S1 => False) (rF Q X)) : wF (mFn n M true m) ds S Q X := by
  unfold wF mFn
  rw [if_pos hl]
  unfold wS at h
  cases q : m (ds.map some ++ List.replicate (M - ds.length) none) S <;> simp only [q] at h ⊢ <;> first | exact h | exact h.elim
theorem r_ret (h : Q d S) : rF Q X (.ret d S) := h
theorem r_err {x : Exc} (h : X x S) : rF Q X (.err x sl S) := h
theorem l_ret {C : Sl → Sto → Prop} (h : R (.ret d S)) : rL C N R (.ret d S) := h
theorem l_err {C : Sl → Sto → Prop} {x : Exc} (h : R (.err x sl S)) : rL C N R (.err x sl S) := h
theorem l_brk {C : Sl → Sto → Prop} (h : N sl S) : rL C N R (.brk sl S) := h
theorem l_cont {C : Sl → Sto → Prop} (h : C sl S) : rL C N R (.cont sl S) := h
theorem f_imp {F : Fn} {ds : List D} {Q' : D → Sto → Prop} (h : wF F ds S Q X) (k : ∀ d S', Q d S' → Q' d S') : wF F ds S Q' X := by
  unfold wF at *
  cases q : F ds S <;> rw [q] at h <;> first | exact k _ _ h | exact h
theorem f_to {F : Fn} {ds : List D} (e : F ds S = .ok d S') (h : Q d S') : wF F ds S Q X := by unfold wF; rw [e]; exact h
theorem f_eq' {F : Fn} {ds : List D} (h : wF F ds S (fun d' S1 => d' = d ∧ S1 = S') fun _ _ => False) : F ds S = .ok d S' := by
  unfold wF at h
  cases q : F ds S <;> rw [q] at h
  · obtain ⟨rfl, rfl⟩ := h; rfl
  · exact h.elim
  · exact h.elim
/-! loops -/
theorem l_inv {t : Tg} (I : Nat → Sl → Sto → Prop) {ds : List D} (h0 : I 0 sl S) (he : ∀ sl S, I ds.length sl S → N sl S)
    (hs : ∀ i d sl S, ds[i]? = some d → I i sl S → wO (t d sl) fun sl1 => wS ma sl1 S (I (i + 1)) (rL (I (i + 1)) N R)) : wS (loopF t ma ds) sl S N R := by
  suffices q : ∀ (es : List D) (i : Nat) (sl : Sl) (S : Sto), ds.drop i = es → I i sl S → i ≤ ds.length → wS (loopF t ma es) sl S N R from q ds 0 sl S rfl h0 (Nat.zero_le _)
  intro es
  induction es with
  | nil =>
    intro i sl S e hi hle
    have : i = ds.length := by have := congrArg List.length e; simp at this; omega
    subst this
    unfold wS loopF
    exact he sl S hi
  | cons d es ih =>
    intro i sl S e hi hle
    have hlt : i < ds.length := by
      rcases Nat.lt_or_ge i ds.length with q | q
      · exact q
      · rw [List.drop_eq_nil_of_le q] at e; cases e
    rw [List.drop_eq_getElem_cons hlt] at e
    have e1 := (List.cons.inj e).1
    have e2 := (List.cons.inj e).2
    obtain ⟨sl1, e3, q⟩ := hs i d sl S (by rw [← e1]; simp [hlt]) hi
    unfold wS at q ⊢
    unfold loopF
    simp only [e3]
    cases z : ma sl1 S with
    | next sl2 S2 => rw [z] at q; have w := ih (i + 1) sl2 S2 e2 q hlt; unfold wS at w; exact w
    | cont sl2 S2 => rw [z] at q; have w := ih (i + 1) sl2 S2 e2 q hlt; unfold wS at w; exact w
    | brk sl2 S2 => rw [z] at q; exact q
    | ret d2 S2 => rw [z] at q; exact q
    | err x sl2 S2 => rw [z] at q; exact q
    | stuck => rw [z] at q; exact q
theorem w_seq {Q : List D → Sto → Prop} (h : wE a sl S (fun d S1 => wO (itD d) fun z => Q z S1) X) : wE (mSeq a) sl S Q X := w_bind (w_imp h fun _ _ q => w_ofO q)
theorem w_rng {k : List D → Option (List D)} {Q : List D → Sto → Prop} (h : wE ms sl S (fun ds S1 => wO (k ds) fun z => Q z S1) X) : wE (mRng k ms) sl S Q X := w_bind (w_imp h fun _ _ q => w_ofO q)
theorem o_rng1 {n : Int} {Q : List D → Prop} (h1 : -1000000000 ≤ n) (h2 : n < 1000000000) (h : Q (rng 0 n.toNat)) : wO (kRng1 [.int n]) Q := ⟨_, by show (if _ then _ else _) = _; rw [if_pos (by unfold inR; exact decide_eq_true ⟨by omega, by omega⟩)], h⟩
theorem o_rng2 {m n : Int} {Q : List D → Prop} (h1 : -1000000000 ≤ m) (h2 : m < 1000000000) (h3 : -1000000000 ≤ n) (h4 : n < 1000000000) (h : Q (rng m (n - m).toNat)) : wO (kRng2 [.int m, .int n]) Q := ⟨_, by show (if _ then _ else _) = _; rw [if_pos ⟨by unfold inR; exact decide_eq_true ⟨by omega, by omega⟩, by unfold inR; exact decide_eq_true ⟨by omega, by omega⟩⟩], h⟩
theorem o_itl {xs : List D} {Q : List D → Prop} (h : Q xs) : wO (itD (.lst xs)) Q := ⟨_, rfl, h⟩
theorem o_itt {xs : List D} {Q : List D → Prop} (h : Q xs) : wO (itD (.tup xs)) Q := ⟨_, rfl, h⟩
/-! comprehensions that leave the store -/
theorem w_lc {t : Tg} {vs : List Nat} {src : Mx (List D)} (G : D → Option D → Prop) (h : wE src sl S (fun (ds : List D) S1 => ds.length < 10000000 ∧ (∀ (i : Nat) (d : D), ds[i]? = some d → wO (t d (wipeD sl vs)) fun sl' => wT ta sl' S1 (fun S2 => S2 = S1 ∧ wE a sl' S1 (fun y S3 => S3 = S1 ∧ G d (some y)) fun _ _ => False) (fun S2 => S2 = S1 ∧ G d none) fun _ _ => False) ∧
    ∀ os : List (Option D), os.length = ds.length → (∀ (i : Nat) (d : D) (o : Option D), ds[i]? = some d → os[i]? = some o → G d o) → Q (.lst (os.filterMap id)) S1) X) : wE (mLc src t ta a vs) sl S Q X := by
  unfold wE mLc at *
  cases q : src sl S with
  | err x S1 => rw [q] at h; exact h
  | stuck => rw [q] at h; exact h
  | ok ds S1 =>
    rw [q] at h
    obtain ⟨h1, h2, h3⟩ := h
    have key : ∀ (es : List D) (acc : List D), acc.length + es.length < 10000001 → (∀ d ∈ es, ∃ i : Nat, ds[i]? = some d) → ∃ os : List (Option D), os.length = es.length ∧ (∀ (i : Nat) (d : D) (o : Option D), es[i]? = some d → os[i]? = some o → G d o) ∧ loopC t ta a (wipeD sl vs) es acc S1 = .ok (acc ++ os.filterMap id) S1 := by
      intro es
      induction es with
      | nil => intro acc _ _; exact ⟨[], rfl, fun i d o z => by simp at z, by simp [loopC]⟩
      | cons d es ih =>
        intro acc hl hm
        obtain ⟨i, hi⟩ := hm d List.mem_cons_self
        obtain ⟨sl', e1, w⟩ := h2 i d hi
        unfold wT at w
        have hl' : acc.length + (es.length + 1) < 10000001 := by simpa using hl
        cases qt : ta sl' S1 with
        | err x S2 => rw [qt] at w; exact w.elim
        | stuck => rw [qt] at w; exact w.elim
        | ok k S2 =>
          rw [qt] at w
          cases k with
          | false =>
            obtain ⟨rfl, g⟩ := w
            obtain ⟨os, o1, o2, o3⟩ := ih acc (by omega) fun d hd => hm d (List.mem_cons_of_mem _ hd)
            refine ⟨none :: os, by simp [o1], fun j d' o z1 z2 => ?_, ?_⟩
            · cases j with
              | zero => simp at z1 z2; subst z1; subst z2; exact g
              | succ j => exact o2 j d' o (by simpa using z1) (by simpa using z2)
            · unfold loopC
              simp only [e1, qt, o3]
              simp
          | true =>
            obtain ⟨rfl, w⟩ := w
            cases qe : a sl' S2 with
            | err x S2 => rw [qe] at w; exact w.elim
            | stuck => rw [qe] at w; exact w.elim
            | ok y S3 =>
              rw [qe] at w
              obtain ⟨rfl, g⟩ := w
              obtain ⟨os, o1, o2, o3⟩ := ih (acc ++ [y]) (by simp; omega) fun d hd => hm d (List.mem_cons_of_mem _ hd)
              refine ⟨some y :: os, by simp [o1], fun j d' o z1 z2 => ?_, ?_⟩
              · cases j with
                | zero => simp at z1 z2; subst z1; subst z2; exact g
                | succ j => exact o2 j d' o (by simpa using z1) (by simpa using z2)
              · unfold loopC
                simp only [e1, qt, qe]
                rw [if_pos (by rw [sz_eq]; omega), o3]
                simp
    obtain ⟨os, o1, o2, o3⟩ := key ds [] (by simpa using Nat.lt_succ_of_lt h1) fun d hd => List.mem_iff_getElem?.mp hd
    simp only [o3]
    exact h3 os o1 o2
end
theorem and_fit {n : Nat} {P : Prop} (e : n ≤ 16777216) (h : P) : n ≤ 16777216 ∧ P := ⟨e, h⟩
theorem and_len {ds : List D} {n : Nat} {P : Prop} (e : ds.length = n) (h : P) : ds.length = n ∧ P := ⟨e, h⟩
theorem and_cls {S : Sto} {o : D} {c : Nat} {P : Prop} (e : clsOf S o = some c) (h : P) : clsOf S o = some c ∧ P := ⟨e, h⟩
theorem and_atom {d : D} {P : Prop} (e : atomD d = true) (h : P) : atomD d = true ∧ P := ⟨e, h⟩
theorem and_non {P : Prop} (h : P) : D.non = D.non ∧ P := ⟨rfl, h⟩
theorem ex_str {s : Str} {P : Str → Prop} (h : P s) : ∃ t, D.str s = .str t ∧ P t := ⟨s, rfl, h⟩
theorem ex_int {s : Int} {P : Int → Prop} (h : P s) : ∃ t, D.int s = .int t ∧ P t := ⟨s, rfl, h⟩
theorem bodyR {N : Sl → Sto → Prop} {m m' : Ms} {sl : Sl} {S : Sto} {R : Rs → Prop} (e : m = m') (h : wS m' sl S N R) : wS m sl S N R := e ▸ h
/-- an item of a list of things of one form -/
theorem o_ixM {α : Type} {f : α → D} {l : List α} {k : Int} {Q : D → Prop} (h0 : 0 ≤ k) (h1 : k < l.length) (h : ∀ v, l[k.toNat]? = some v → Q (f v)) : wO (fIx (.lst (l.map f)) (.int k)) Q := by
  have hk : k.toNat < l.length := by omega
  refine ⟨f l[k.toNat], ?_, h _ (by simp [hk])⟩
  show L2.atI (l.map f) k = _
  unfold L2.atI L2.ixN
  rw [List.length_map, if_pos h0, if_pos h1]
  show (l.map f)[k.toNat]? = _
  rw [List.getElem?_map]; simp [hk]
theorem o_ixMt {α : Type} {f : α → D} {l : List α} {k : Int} {Q : D → Prop} (h0 : 0 ≤ k) (h1 : k < l.length) (h : ∀ v, l[k.toNat]? = some v → Q (f v)) : wO (fIx (.tup (l.map f)) (.int k)) Q := o_ixM (Q := Q) h0 h1 h
theorem p20 : fPow (.int 10) (.int 20) = some (.int 100000000000000000000) := by rfl
theorem p30 : fPow (.int 10) (.int 30) = some (.int 1000000000000000000000000000000) := by rfl
theorem p40 : fPow (.int 10) (.int 40) = some (.int 10000000000000000000000000000000000000000) := by rfl
end Sm
set_option Elab.async false
set_option linter.all false
set_option maxRecDepth 100000
set_option maxHeartbeats 1000000
/-! Sim 20: in, texts, list.index, range as a list, own classes as types, constants of a class. -/
namespace Sm
open PySem PySem.Spec PyProof.Rows L2

/-! ### flat items -/
def flV : D → Option V
  | .non => some .non
  | .bl b => some (.bl b)
  | .int i => some (.int i)
  | .str x => some (.str x)
  | _ => none
def flatD (d : D) : Bool := (flV d).isSome
def eqD : D → D → Bool
  | .non, .non => true
  | .bl a, .bl b => a == b
  | .bl a, .int b => (if a then 1 else 0) == b
  | .int a, .bl b => a == (if b then 1 else 0)
  | .int a, .int b => a == b
  | .str a, .str b => a == b
  | _, _ => false
theorem eqD_V {d e : D} {x y : V} (h : flV d = some x) (k : flV e = some y) : eqV x y = eqD d e := by
  cases d <;> first | cases h | skip
  all_goals (cases e <;> first | cases k | skip)
  all_goals rfl
section
variable {K : PySem.W.Frag}
theorem Rep.flat {C : Cfg} {G : Hp} {ρ : List Addr} {d : D} {v x : V} (r : Rep K C G ρ d v) (h : flV d = some x) : v = x ∧ flatV x = true := by
  cases d <;> first | cases h | skip
  all_goals (cases r; exact ⟨rfl, rfl⟩)
theorem RepB.flat {J : Jd} {g : Gh} {H : Hp} {d : D} {v x : V} (r : RepB K J g H d v) (h : flV d = some x) : v = x ∧ flatV x = true := by
  rcases r with r | ⟨p, w, rfl, _, _, c⟩
  · exact r.flat h
  · cases d <;> first | exact False.elim c | cases h
theorem reps_flat {C : Cfg} {G : Hp} {ρ : List Addr} : ∀ {ds : List D} {vs : List V}, Reps K C G ρ ds vs → ds.all flatD = true → vs.all flatV = true ∧ ∀ (d : D) (x : V), flV d = some x → inV x vs = ds.any fun e => eqD e d
  | [], _, .nil, _ => ⟨rfl, fun _ _ _ => rfl⟩
  | e :: ds, _, .cons (v := v) (vs := vs) h r, f => by
    rw [List.all_cons, Bool.and_eq_true] at f
    obtain ⟨k1, k2⟩ := reps_flat r f.2
    obtain ⟨x, hx⟩ := Option.isSome_iff_exists.mp (show (flV e).isSome = true from f.1)
    obtain ⟨rfl, fx⟩ := h.flat hx
    refine ⟨by rw [List.all_cons, fx, k1]; rfl, fun d y hy => ?_⟩
    show List.any (v :: vs) _ = _
    rw [List.any_cons, List.any_cons, eqD_V hx hy]
    exact congrArg _ (k2 d y hy)
end

/-! ### in -/
def hasS (z a : Str) : Bool := !(Builtin.Str.occurrences z a 0 z.length 1).isEmpty
def isIn (d : D) : D → Option Bool
  | .lst xs => if flatD d = true ∧ xs.all flatD = true then some (xs.any fun e => eqD e d) else none
  | .tup xs => if flatD d = true ∧ xs.all flatD = true then some (xs.any fun e => eqD e d) else none
  | .str z => match d with
    | .str a => some (hasS z a)
    | _ => none
  | _ => none
def fIn (d c : D) : Option D := (isIn d c).map .bl
def fNotIn (d c : D) : Option D := (isIn d c).map fun b => .bl (!b)
def rInF (K : PySem.W.Frag) (neg : Bool) : R2 := fun x y H Q => rIn K neg x y H Q ∨ ∃ i j, x = .str i ∧ y = .str j ∧ Q (.bl (if neg then !hasS j i else hasS j i)) H
section
variable {X : Cx}
theorem o_in : OpR X (compareOp .In) (rInF X.K false) := op_in_seq.or op_in_str
theorem o_notin : OpR X (compareOp .NotIn) (rInF X.K true) := op_notIn_seq.or op_notIn_str
end
theorem in_run {K : PySem.W.Frag} {neg : Bool} {J : Jd} {Γ : List Bool} {σ : L2.St} {sl : List (Option D)} {g : Gh} {H : Hp} {S : Sto} {Q : VK} {d c : D} {b : Bool} {x y : V} (h : isIn d c = some b) (r : Rel K J.C Γ g sl S σ H) (b1 : RepB K J g H d x) (b2 : RepB K J g H c y)
    (q : Q (.bl (if neg then !b else b)) H) : rInF K neg x y H Q := by
  cases c with
  | str z =>
    cases d <;> first | cases h | skip
    exact .inr ⟨_, _, b1.str, b2.str, q⟩
  | lst xs =>
    obtain ⟨p, vs, rfl, s, rs⟩ := b2.lst r.sub
    have h : (if flatD d = true ∧ xs.all flatD = true then some (xs.any fun e => eqD e d) else none) = some b := h
    split at h
    · rename_i hf
      cases h
      obtain ⟨u, hu⟩ := Option.isSome_iff_exists.mp (show (flV d).isSome = true from hf.1)
      obtain ⟨rfl, fx⟩ := b1.flat hu
      obtain ⟨k1, k2⟩ := reps_flat rs hf.2
      exact .inl ⟨p, vs, rfl, .inl s, fx, k1, by rw [k2 d x hu]; exact q⟩
    · cases h
  | tup xs =>
    obtain ⟨p, vs, rfl, s, rs⟩ := b2.tup r.sub
    have h : (if flatD d = true ∧ xs.all flatD = true then some (xs.any fun e => eqD e d) else none) = some b := h
    split at h
    · rename_i hf
      cases h
      obtain ⟨u, hu⟩ := Option.isSome_iff_exists.mp (show (flV d).isSome = true from hf.1)
      obtain ⟨rfl, fx⟩ := b1.flat hu
      obtain ⟨k1, k2⟩ := reps_flat rs hf.2
      exact .inl ⟨p, vs, rfl, .inr s, fx, k1, by rw [k2 d x hu]; exact q⟩
    · cases h
  | _ => cases h
theorem f_in {K : PySem.W.Frag} : Op2 K (rInF K false) fIn := by
  intro J Γ σ sl g H S Q d e z x y hz r b1 b2 p
  obtain ⟨b, hb, rfl⟩ := Option.map_eq_some_iff.mp hz
  exact in_run hb r b1 b2 (PD.now p r (.bl _))
theorem f_notin {K : PySem.W.Frag} : Op2 K (rInF K true) fNotIn := by
  intro J Γ σ sl g H S Q d e z x y hz r b1 b2 p
  obtain ⟨b, hb, rfl⟩ := Option.map_eq_some_iff.mp hz
  exact in_run hb r b1 b2 (PD.now p r (.bl _))

/-! ### int(text), str(int) -/
def kIntS : List D → Option D
  | [.int i] => some (.int i)
  | [.bl b] => some (.int (if b then 1 else 0))
  | [.str a] => if a.length ≤ 640 then (PySem.intText? a).map .int else none
  | _ => none
def rIntS : List V → Hp → VK → Prop := fun xs H Q => rIntF xs H Q ∨ ∃ a n, xs = [.str a] ∧ PySem.intText? a = some n ∧ a.length ≤ 640 ∧ Q (.int n) H
theorem o_intS {X : Cx} : CallR X (.type "int") rIntS := o_int.or call_int_str
section
variable {K : PySem.W.Frag}
theorem f_intS : Cal K rIntS kIntS := by
  intro J Γ σ sl g H S Q ds z vs hz r b p
  unfold kIntS at hz
  split at hz
  · cases hz
    obtain ⟨v, ws, rfl, b, rfl⟩ := b
    exact .inl (.inl ⟨_, by rw [b.int], PD.now p r (.int _)⟩)
  · cases hz
    obtain ⟨v, ws, rfl, b, rfl⟩ := b
    exact .inl (.inr ⟨_, by rw [b.bl], PD.now p r (.int _)⟩)
  · split at hz
    · rename_i hl
      obtain ⟨n, hn, rfl⟩ := Option.map_eq_some_iff.mp hz
      obtain ⟨v, ws, rfl, b, rfl⟩ := b
      exact .inr ⟨_, n, by rw [b.str], hn, hl, PD.now p r (.int _)⟩
    · cases hz
  · cases hz
def kStr : List D → Option D
  | [.int i] => if i.natAbs.log2 < 1920 then some (.str (toString i)) else none
  | [.str a] => some (.str a)
  | _ => none
def rStrF : List V → Hp → VK → Prop := fun xs H Q => (∃ i, xs = [.int i] ∧ i.natAbs.log2 < 1920 ∧ Q (.str (toString i)) H) ∨ ∃ a, xs = [.str a] ∧ Q (.str a) H
theorem o_str {X : Cx} : CallR X (.type "str") rStrF := call_str_int.or SkE.call_str_str
theorem f_str : Cal K rStrF kStr := by
  intro J Γ σ sl g H S Q ds z vs hz r b p
  unfold kStr at hz
  split at hz
  · split at hz
    · rename_i hl
      cases hz
      obtain ⟨v, ws, rfl, b, rfl⟩ := b
      exact .inl ⟨_, by rw [b.int], hl, PD.now p r (.str _)⟩
    · cases hz
  · cases hz
    obtain ⟨v, ws, rfl, b, rfl⟩ := b
    exact .inr ⟨_, by rw [b.str], PD.now p r (.str _)⟩
  · cases hz
/-- sorted(ints) -/
def kSorted : List D → Option D
  | [.lst xs] => (toInts xs).map fun ns => .lst ((ns.mergeSort (· ≤ ·)).map .int)
  | _ => none
theorem ints_reps {C : Cfg} {G : Hp} {ρ : List Addr} : ∀ ns : List Int, Reps K C G ρ (ns.map D.int) (ns.map V.int)
  | [] => .nil
  | i :: r => .cons (.int i) (ints_reps r)
theorem sort_one {ns ms : List Int} (hp : ms.Perm ns) (hs : ms.Pairwise (· ≤ ·)) : ns.mergeSort (· ≤ ·) = ms := by
  have h1 : (ns.mergeSort (fun a b => decide (a ≤ b))).Perm ms := (List.mergeSort_perm ns _).trans hp.symm
  have t : ∀ a b c : Int, decide (a ≤ b) = true → decide (b ≤ c) = true → decide (a ≤ c) = true := fun a b c h1 h2 => decide_eq_true (Int.le_trans (of_decide_eq_true h1) (of_decide_eq_true h2))
  have u : ∀ a b : Int, (decide (a ≤ b) || decide (b ≤ a)) = true := fun a b => by
    rcases Int.le_total a b with h | h <;> simp [h]
  have h2 : (ns.mergeSort (fun a b => decide (a ≤ b))).Pairwise (fun a b => decide (a ≤ b) = true) := List.pairwise_mergeSort t u ns
  exact List.Perm.eq_of_pairwise (fun a b _ _ x y => Int.le_antisymm (of_decide_eq_true x) (of_decide_eq_true y)) h2 (hs.imp fun h => decide_eq_true h) h1
theorem f_sorted : Cal K (rSortedI K) kSorted := by
  intro J Γ σ sl g H S Q ds z vs hz r b p
  unfold kSorted at hz
  split at hz
  · obtain ⟨ns, hn, rfl⟩ := Option.map_eq_some_iff.mp hz
    obtain ⟨v, ws, rfl, b, rfl⟩ := b
    obtain ⟨a, us, rfl, s1, r1⟩ := b.lst r.sub
    rw [reps_ints hn r1] at s1
    refine ⟨a, ns, rfl, s1, fun ms q hp hs hq => ?_⟩
    rw [sort_one hp hs] at p
    exact p.newL r hq (ints_reps ms)
  · cases hz
theorem fn_sorted : CalN K (rSortedI K) kSorted := by
  intro J Γ σ sl g H S Q ds z vs hz r b p
  unfold kSorted at hz
  split at hz
  · obtain ⟨ns, hn, rfl⟩ := Option.map_eq_some_iff.mp hz
    obtain ⟨v, ws, rfl, b, rfl⟩ := b
    obtain ⟨a, us, rfl, s1, r1⟩ := b.lst r.sub
    rw [reps_ints hn r1] at s1
    refine ⟨a, ns, rfl, s1, fun ms q hp hs hq => ?_⟩
    rw [sort_one hp hs] at p
    exact p.newL r hq (ints_reps ms)
  · cases hz
end

/-! ### methods of texts -/
theorem pe_either {X : Cx} {e : Expr} {t t' : TE} (h : PE X e t) (h' : PE X e t') : PE X e (fun σ H Q => t σ H Q ∨ t' σ H Q) := ⟨fun pins s σ H Q I q => q.elim (h.run pins s σ H Q I) (h'.run pins s σ H Q I)⟩
def mM0 (f : Str → Option D) (mo : Mx D) : Mx D := bindX mo fun o => match o with
  | .str a => ofO (f a)
  | _ => fun _ _ => .stuck
def fUpper (a : Str) : Option D := if a.length ≤ 5592405 then some (.str (Txt.upper a)) else none
def strsD (ys : List Str) : D := .lst (ys.map .str)
def fSplit (a : Str) (d : D) : Option D := match d with
  | .str b => if (b.length == 0) = false ∧ a.length + 2 ≤ sizeLine then some (strsD (Txt.split a b)) else none
  | _ => none
def fFind (a : Str) (d : D) : Option D := match d with
  | .str b => some (.int (Txt.find a b))
  | _ => none
theorem strs_reps {K : PySem.W.Frag} {C : Cfg} {G : Hp} {ρ : List Addr} : ∀ ns : List Str, Reps K C G ρ (ns.map D.str) (ns.map V.str)
  | [] => .nil
  | i :: r => .cons (.str i) (strs_reps r)
/-- the first place of a flat item -/
def findD (d : D) : List D → Option Nat
  | [] => none
  | x :: xs => if eqD x d = true then some 0 else (findD d xs).map (· + 1)
def fIndexL (xs : List D) (d : D) : Option D := if flatD d = true ∧ xs.all flatD = true then (findD d xs).map fun (j : Nat) => D.int (j : Int) else none
def mIdx (mo me : Mx D) : Mx D := bindX mo fun o => match o with
  | .str a => bindX me fun y => ofO (fIndex a y)
  | .lst xs => bindX me fun y => ofO (fIndexL xs y)
  | _ => fun _ _ => .stuck
theorem findD_at {d : D} : ∀ {xs : List D} {j : Nat}, findD d xs = some j → (∃ z, xs[j]? = some z ∧ eqD z d = true) ∧ ∀ m z, m < j → xs[m]? = some z → eqD z d = false
  | [], _, h => by cases h
  | x :: xs, j, h => by
    unfold findD at h
    split at h
    · rename_i e
      cases h
      exact ⟨⟨x, rfl, e⟩, fun m z hm => by omega⟩
    · rename_i e
      obtain ⟨k, hk, rfl⟩ := Option.map_eq_some_iff.mp h
      obtain ⟨⟨z, z1, z2⟩, k2⟩ := findD_at hk
      refine ⟨⟨z, by simpa using z1, z2⟩, fun m z hm hz => ?_⟩
      cases m with
      | zero => simp at hz; subst hz; simpa using e
      | succ m => exact k2 m z (by omega) (by simpa using hz)
section
variable {X : Cx} {J : Jd} {Γ : List Bool} {o e : Expr} {mo me : Mx D} {apos pos : Pos}
theorem m0_run {r : V → List V → Hp → VK → Prop} {f : Str → Option D} (hf : ∀ (σ : L2.St) (sl : List (Option D)) (g : Gh) (H : Hp) (S : Sto) (Q : VK) (a : Str) (z : D), f a = some z → Rel X.K J.C Γ g sl S σ H → PD X.K J Γ σ sl g H Q (.ok z S) → r (.str a) [] H Q) {σ : L2.St} {H : Hp} {Q : VK} (q : tD X.K J Γ (mM0 f mo) σ H Q) : tM0 r (tBo X.K J Γ mo) σ H Q := by
  obtain ⟨g, sl, S, rl, p⟩ := tD_iff.mp q
  refine chB postD rl p fun g1 H1 d S1 x st1 r1 b1 p1 => ?_
  cases d <;> first | exact False.elim p1 | skip
  rename_i a
  cases b1.str
  obtain ⟨z, hz, p3⟩ := ofO_of postD p1
  exact ⟨⟨a, rfl⟩, hf σ sl g1 H1 S1 Q a z hz r1 p3⟩
theorem sd_upper (ho : SB X J Γ o mo) (hbase : attributeBase o "upper" X.env (eval o X.env) = eval o X.env := by rfl) (hline : (apos.endLine == pos.line) = true := by rfl) :
    SD X J Γ (.Call (.Attribute o "upper" apos) [] [] pos) (mM0 fUpper mo) := PE.imp (pe_upper ho hbase hline) fun σ H Q q => m0_run (fun σ sl g H S Q a z hf rl p => by
  unfold fUpper at hf
  split at hf
  · cases hf
    exact ⟨a, rfl, rfl, by assumption, PD.now p rl (.str _)⟩
  · cases hf) q
theorem sd_split (ho : SB X J Γ o mo) (he : SB X J Γ e me) (hs : starEach [e] X.env = [(false, eval e X.env)] := by rfl) (hbase : attributeBase o "split" X.env (eval o X.env) = eval o X.env := by rfl) (hline : (apos.endLine == pos.line) = true := by rfl) :
    SD X J Γ (.Call (.Attribute o "split" apos) [e] [] pos) (mM1 fSplit mo me) := PE.imp (pe_split ho he hs hbase hline) fun σ H Q q => m1_run (fun σ sl g H S Q a d z y hf rl b p => by
  unfold fSplit at hf
  split at hf
  · split at hf
    · rename_i hh
      cases hf
      cases b.str
      exact ⟨a, _, rfl, rfl, hh.1, hh.2, fun q hq => p.newL rl hq (strs_reps _)⟩
    · cases hf
  · cases hf) q
theorem sd_find (ho : SB X J Γ o mo) (he : SB X J Γ e me) (hs : starEach [e] X.env = [(false, eval e X.env)] := by rfl) (hbase : attributeBase o "find" X.env (eval o X.env) = eval o X.env := by rfl) (hline : (apos.endLine == pos.line) = true := by rfl) :
    SD X J Γ (.Call (.Attribute o "find" apos) [e] [] pos) (mM1 fFind mo me) := PE.imp (pe_m1 F.slot_str_find F.type_str_find mt_find ho he hs hbase hline) fun σ H Q q => m1_run (fun σ sl g H S Q a d z y hf rl b p => by
  unfold fFind at hf
  split at hf
  · cases hf
    cases b.str
    exact ⟨a, _, rfl, rfl, PD.now p rl (.int _)⟩
  · cases hf) q
theorem sd_indexA (ho : SB X J Γ o mo) (he : SB X J Γ e me) (hs : starEach [e] X.env = [(false, eval e X.env)] := by rfl) (hbase : attributeBase o "index" X.env (eval o X.env) = eval o X.env := by rfl) (hline : (apos.endLine == pos.line) = true := by rfl)
    (hfew : ((backTo pos (starEach [e] X.env)).all (fun x => !x.1) && (backToKw pos (keywordEach [] X.env)).all (fun x => x.1.isSome)
      && decide (([e] : List Expr).length + ([] : List Keyword).length + (if ([] : List Keyword).isEmpty then 0 else 1) < 30)) = true := by rfl)
    (hs2 : starEach [e] X.env = (false, eval e X.env) :: starEach [] X.env := by rfl) (hplain : (backTo pos (starEach [] X.env)).any (·.1) = false := by rfl) :
    SD X J Γ (.Call (.Attribute o "index" apos) [e] [] pos) (mIdx mo me) :=
  PE.imp (pe_either (pe_m1 F.slot_str_index F.type_str_index mt_sindex ho he hs hbase hline) (pe_bm PySem.F.plainAttrs_list PySem.F.slot_list_index PySem.F.type_list_index mt_index ho (pa_cons he pa_nil hs2) hbase hfew hline hs2 hplain)) fun σ H Q q => by
    obtain ⟨g, sl, S, rl, p⟩ := tD_iff.mp q
    cases e1 : mo sl S with
    | stuck => unfold mIdx bindX at p; rw [e1] at p; exact p.elim
    | err x S' =>
      refine .inl (tBo_iff.mpr ⟨g, sl, S, rl, ?_⟩)
      unfold mIdx bindX at p
      rw [e1] at p ⊢
      exact p
    | ok d S' =>
      have ms : ∀ a, d = .str a → PD X.K J Γ σ sl g H Q (mM1 fIndex mo me sl S) := fun a z => by
        subst z
        unfold mIdx bindX at p
        unfold mM1 bindX
        rw [e1] at p ⊢
        exact p
      cases d with
      | str a =>
        exact .inl (m1_run (fun σ sl g H S Q a d z y hf rl b p => by
             unfold fIndex at hf
             split at hf
             · rename_i b'
               split at hf
               · rename_i i rest hi
                 cases hf
                 cases b.str
                 exact ⟨a, b', i, rest, rfl, rfl, hi, PD.now p rl (.int _)⟩
               · cases hf
             · cases hf) (tD_iff.mpr ⟨g, sl, S, rl, ms a rfl⟩))
      | lst xs =>
        refine .inr (tBo_iff.mpr ⟨g, sl, S, rl, ?_⟩)
        have p : PD X.K J Γ σ sl g H Q (bindX me (fun y => ofO (fIndexL xs y)) sl S') := by
          unfold mIdx bindX at p
          rw [e1] at p
          exact p
        rw [e1]
        intro g1 H1 x st1 r1 b1
        have p1 := PD.step st1 p
        obtain ⟨a, us, rfl, s1, ru⟩ := b1.lst r1.sub
        refine ⟨Or.inl ⟨rfl, us, s1⟩, ?_⟩
        refine chB postD r1 p1 fun g2 H2 e S2 y st2 r2 b2 p2 => ?_
        obtain ⟨z, hz, p3⟩ := ofO_of postD p2
        obtain ⟨a2, us2, ea, s2, ru2⟩ := (b1.step st2).lst r2.sub
        cases ea
        unfold fIndexL at hz
        split at hz
        · rename_i hf
          obtain ⟨j, hj, rfl⟩ := Option.map_eq_some_iff.mp hz
          obtain ⟨u, hu⟩ := Option.isSome_iff_exists.mp (show (flV e).isSome = true from hf.1)
          obtain ⟨rfl, fx⟩ := b2.flat hu
          obtain ⟨⟨d0, h1, h2⟩, h3⟩ := findD_at hj
          obtain ⟨v0, k1, k2⟩ := ru2.get h1
          have fl : ∀ d ∈ xs, flatD d = true := List.all_eq_true.mp hf.2
          have eqs : ∀ (d : D) (v : V), d ∈ xs → Rep X.K J.C g2.G g2.ρ d v → eqV v y = eqD d e := fun d v hm hv => by
            obtain ⟨w, hw⟩ := Option.isSome_iff_exists.mp (show (flV d).isSome = true from fl d hm)
            obtain ⟨rfl, _⟩ := hv.flat hw
            exact eqD_V hw hu
          refine ⟨a, us2, y, j, v0, rfl, rfl, s2, fx, (reps_flat ru2 hf.2).1, k1, by rw [eqs d0 v0 (List.mem_of_getElem? h1) k2]; exact h2, fun m z' hm hz' => ?_, PD.now p3 r2 (.int _)⟩
          obtain ⟨d', q1, q2⟩ := ru2.get' hz'
          rw [eqs d' z' (List.mem_of_getElem? q1) q2]
          exact h3 m d' hm q1
        · cases hz
      | _ => unfold mIdx bindX at p; rw [e1] at p; exact p.elim
end
end Sm
set_option Elab.async false
set_option linter.all false
set_option maxRecDepth 100000
set_option maxHeartbeats 2000000
/-! Sim 21: constants of any form, nested targets, enumerate, zip, texts walked, constants of classes, own classes asked, range as a list. -/
namespace Sm
open PySem PySem.Spec PyProof.Rows L2

/-! ### constants -/
mutual
inductive Cst (K : PySem.W.Frag) : D → Value → Prop
  | non : Cst K .non .none
  | bl (b : Bool) : Cst K (.bl b) (.bool b)
  | int (i : Int) (t : Tok) : Cst K (.int i) (.int i t)
  | str (x : Str) (t : Tok) : Cst K (.str x) (.str x t)
  | tup {a : Addr} {o : Obj} {its : Array Value} {n : Nat} {ds : List D} : K.lookup a = some o → o.cls = .type "tuple" → o.data = .seq its n → its.size ≤ sizeLine → Csts K ds its.toList → Cst K (.tup ds) (.ref a)
  | lst {a : Addr} {o : Obj} {its : Array Value} {n : Nat} {ds : List D} : K.lookup a = some o → o.cls = .type "list" → o.dict = none → o.data = .seq its n → its.size ≤ sizeLine → Csts K ds its.toList → Cst K (.lst ds) (.ref a)
inductive Csts (K : PySem.W.Frag) : List D → List Value → Prop
  | nil : Csts K [] []
  | cons {d : D} {v : Value} {ds : List D} {vs : List Value} : Cst K d v → Csts K ds vs → Csts K (d :: ds) (v :: vs)
end
mutual
theorem Cst.rep {K : PySem.W.Frag} : ∀ {d : D} {u : Value}, Cst K d u → ∃ v, RelV v u ∧ ∀ C G ρ, Rep K C G ρ d v
  | _, _, .non => ⟨.non, rfl, fun _ _ _ => .non⟩
  | _, _, .bl b => ⟨.bl b, rfl, fun _ _ _ => .bl b⟩
  | _, _, .int i t => ⟨.int i, ⟨t, rfl⟩, fun _ _ _ => .int i⟩
  | _, _, .str i t => ⟨.str i, ⟨t, rfl⟩, fun _ _ _ => .str i⟩
  | _, _, .tup (a := a) h1 h2 h3 h4 h5 => by
    obtain ⟨vs, r, k⟩ := Csts.rep h5
    exact ⟨.ref a, rfl, fun C G ρ => .tup (.inr ⟨_, _, _, h1, h2, h3, h4, r⟩) (k C G ρ)⟩
  | _, _, .lst (a := a) h1 h2 h0 h3 h4 h5 => by
    obtain ⟨vs, r, k⟩ := Csts.rep h5
    exact ⟨.ref a, rfl, fun C G ρ => .lst (.inr ⟨_, _, _, h1, h2, h0, h3, h4, r⟩) (k C G ρ)⟩
theorem Csts.rep {K : PySem.W.Frag} : ∀ {ds : List D} {us : List Value}, Csts K ds us → ∃ vs, Vals vs us ∧ ∀ C G ρ, Reps K C G ρ ds vs
  | _, _, .nil => ⟨[], .nil, fun _ _ _ => .nil⟩
  | _, _, .cons h t => by
    obtain ⟨v, r, k⟩ := Cst.rep h
    obtain ⟨vs, r2, k2⟩ := Csts.rep t
    exact ⟨v :: vs, .cons r r2, fun C G ρ => .cons (k C G ρ) (k2 C G ρ)⟩
end
theorem loose_str {lvs : List (Str × PySem.W.WData)} {mg : Str → Option Value} {h : Heap} {K : PySem.W.Frag} {x : Str} {n : Str} (L : PySem.W.LooseAre lvs mg h) (hm : (x, PySem.W.WData.str n) ∈ lvs) : ∃ u, mg x = some u ∧ Cst K (.str n) u := by
  obtain ⟨v, h1, h2⟩ := L.val _ hm
  refine ⟨v, h1, ?_⟩
  cases h2
  exact .str _ _
theorem loose_intC {lvs : List (Str × PySem.W.WData)} {mg : Str → Option Value} {h : Heap} {K : PySem.W.Frag} {x : Str} {n : Int} (L : PySem.W.LooseAre lvs mg h) (hm : (x, PySem.W.WData.int n) ∈ lvs) : ∃ u, mg x = some u ∧ Cst K (.int n) u := by
  obtain ⟨v, h1, h2⟩ := L.val _ hm
  refine ⟨v, h1, ?_⟩
  cases h2
  exact .int _ _
section
variable {X : Cx} {J : Jd} {Γ : List Bool} {pos p p2 apos : Pos}
theorem sd_cst {d : D} {x : Str} (h : ∃ u, X.mg x = some u ∧ Cst X.K d u) (hg : Gl X x := by rfl) (hd : (x == ("__debug__" : Str)) = false := by decide) : SD X J Γ (.Name x pos) (mC d) := by
  obtain ⟨u, hm, c⟩ := h
  obtain ⟨v, r, k⟩ := c.rep
  exact sd_glob hm r k hg hd
/-- C.f, a constant of the class -/
def CCon (K : PySem.W.Frag) (C : Addr) (f : Str) (d : D) : Prop := ∃ mc u, ClX.CRead K C mc ∧ PySem.W.findCls K (.ref C) mc f = some (.val u) ∧ Cst K d u
theorem sd_ccon {C : Addr} {x f : Str} {d : D} (hm : X.mg x = some (.ref C)) (h : CCon X.K C f d) (hg : Gl X x := by rfl) (hd : (x == ("__debug__" : Str)) = false := by decide) (hb : attributeBase (.Name x p) f X.env (eval (.Name x p) X.env) = eval (.Name x p) X.env := by rfl) :
    SD X J Γ (.Attribute (.Name x p) f pos) (mC d) := by
  obtain ⟨mc, u, r, k, c⟩ := h
  obtain ⟨v, rv, kv⟩ := c.rep
  refine PE.imp (ClX.pe_cval (pe_glob (v := .ref C) hg hm rfl hd) hb) fun σ H Q q => ?_
  obtain ⟨g, sl, S, rl, p⟩ := tD_iff.mp q
  exact ⟨C, mc, v, u, rfl, r, ⟨k, rv⟩, PD.now p rl (kv _ _ _)⟩
end

/-! ### targets in targets -/
def setsT : List Tg → List D → List (Option D) → Option (List (Option D))
  | [], [], sl => some sl
  | t :: ts, d :: ds, sl => (t d sl).bind fun sl' => setsT ts ds sl'
  | _, _, _ => none
def tTupT (ts : List Tg) : Tg := fun d sl => match d with
  | .tup ds => setsT ts ds sl
  | _ => none
section
variable {X : Cx} {C : Cfg} {Γ : List Bool} {pos : Pos}
inductive STl (X : Cx) (C : Cfg) (Γ : List Bool) (all : List Nat) : List Expr → List Tg → TGs → Prop
  | nil : STl X C Γ all [] [] gNil
  | cons {e : Expr} {es : List Expr} {t : Tg} {ts : List Tg} {is : List Nat} {gt : TG} {u : TGs} (h1 : STg X C Γ Γ is e t gt) (hi : ∀ i ∈ is, i ∈ all) (h2 : STl X C Γ all es ts u) (hs : (assignEach (e :: es) X.env).map (·.2) = assign e X.env :: (assignEach es X.env).map (·.2)) : STl X C Γ all (e :: es) (t :: ts) (gCons gt u)
theorem STl.pgs {all : List Nat} {es : List Expr} {is : List Tg} {u : TGs} (h : STl X C Γ all es is u) : PGs X es u := by
  induction h with
  | nil => exact pgs_nil
  | cons h1 _ _ hs ih => exact pgs_cons h1.1 ih hs
theorem SetOnly.weak {a b : List Nat} {σ σ' : L2.St} (h : SetOnly a σ σ') (hi : ∀ i ∈ a, i ∈ b) : SetOnly b σ σ' := ⟨h.1, fun j hj => h.2 j fun z => hj (hi j z)⟩
theorem STl.run {all : List Nat} {es : List Expr} {is : List Tg} {u : TGs} (h : STl X C Γ all es is u) : ∀ (g : Gh) (sl sl' : List (Option D)) (S : Sto) (σ : L2.St) (H : Hp) (ds : List D) (vs : List V) (Q : L2.St → Hp → Prop),
    Rel X.K C Γ g sl S σ H → Reps X.K C g.G g.ρ ds vs → setsT is ds sl = some sl' → (∀ σ', SetOnly all σ σ' → Rel X.K C Γ g sl' S σ' H → Q σ' H) → u vs σ H Q := by
  induction h with
  | nil =>
    intro g sl sl' S σ H ds vs Q r rp e k
    cases rp with
    | nil => cases e; exact ⟨rfl, k σ ⟨rfl, fun _ _ => rfl⟩ r⟩
    | cons _ _ => cases e
  | @cons e es t ts is gt u h1 hi h2 hs ih =>
    intro g sl sl' S σ H ds vs Q r rp e k
    cases rp with
    | nil => cases e
    | @cons d v ds vs hd hr =>
      obtain ⟨sl1, e1, e2⟩ := Option.bind_eq_some_iff.mp (show (t d sl).bind (fun sl' => setsT ts ds sl') = some sl' from e)
      refine ⟨v, vs, rfl, ?_⟩
      exact h1.2 g sl sl1 S σ H d v _ r hd e1 fun σ1 s1 r1 => ih g sl1 sl' S σ1 H ds vs Q r1 hr e2 fun σ' s' r' => k σ' ((s1.weak hi).trans s') r'
theorem setsT_len : ∀ {ts : List Tg} {ds : List D} {sl sl' : List (Option D)}, setsT ts ds sl = some sl' → ds.length = ts.length
  | [], [], _, _, _ => rfl
  | [], _ :: _, _, _, e => by cases e
  | _ :: _, [], _, _, e => by cases e
  | t :: ts, d :: ds, sl, sl', e => by
    obtain ⟨sl1, e1, e2⟩ := Option.bind_eq_some_iff.mp (show (t d sl).bind (fun sl' => setsT ts ds sl') = some sl' from e)
    rw [List.length_cons, List.length_cons, setsT_len e2]
theorem STl.len {all : List Nat} {es : List Expr} {is : List Tg} {u : TGs} (h : STl X C Γ all es is u) : es.length = is.length := by
  induction h with
  | nil => rfl
  | cons _ _ _ _ ih => rw [List.length_cons, List.length_cons, ih]
theorem tg_tupT {es : List Expr} {ts : List Tg} {u : TGs} {k : Nat} {vs : List Nat} (K : PySem.W.Frag) (all : List Nat) (n : Nat) (hc : X.calm = true) (h : STl X C Γ all es ts u) (hv : vs = all := by rfl) (hK : X.K = K := by rfl) (hn : (assignEach es X.env).length = n := by rfl) (hl : ts.length = n := by rfl) (hst : (assignEach es X.env).findIdx? (·.1) = none := by rfl) : STg X C Γ Γ vs (.Tuple es k pos) (tTupT ts) (gTup K n u) := hv ▸ hK ▸
  ⟨pg_tup hc h.pgs hn hst, fun g sl sl' S σ H d v Q r hd e k => by
    unfold tTupT at e
    split at e
    · rename_i ds
      cases hd with
      | @tup a vs _ s rp =>
        refine ⟨a, vs, rfl, sqT_mono r.sto.sub s, ?_, h.run g sl sl' S σ H ds vs Q r rp e k⟩
        rw [← rp.length, setsT_len e, hl]
    · cases e⟩
end

/-! ### enumerate, zip, texts -/
def enumD : D → Option (List D)
  | .lst xs => some (xs.zipIdx.map fun p => .tup [.int (p.2 : Nat), p.1])
  | _ => none
def mEnum (m : Mx D) : Mx (List D) := bindX m fun d => ofO (enumD d)
def zipD : D → D → Option (List D)
  | .lst xs, .lst ys => some ((xs.zip ys).map fun p => .tup [p.1, p.2])
  | .tup xs, .tup ys => some ((xs.zip ys).map fun p => .tup [p.1, p.2])
  | _, _ => none
def mZip (m n : Mx D) : Mx (List D) := bindX m fun d => bindX n fun e => ofO (zipD d e)
/-- the signs of a text -/
def signs (z : Str) : List D := z.cps.toList.map fun c => .str ⟨#[c]⟩
def itA : D → Option (List D)
  | .str z => some (signs z)
  | d => itD d
def mSeqA (m : Mx D) : Mx (List D) := bindX m fun d => ofO (itA d)
section
variable {K : PySem.W.Frag} {C : Cfg} {c : Ow → Bool} {g : Gh} {H : Hp}
theorem pair_step {g1 : Gh} {H1 : Hp} {S : Sto} {T : Addr} {x y : V} {d e : D} (s : StoOk K C g1 H1 S) (hT : H1 T = none) (h1 : Rep K C g1.G g1.ρ d x) (h2 : Rep K C g1.G g1.ρ e y) :
    ∃ g2, Stp (cE false) g1 H1 g2 (upd H1 T (.tup [x, y])) ∧ StoOk K C g2 (upd H1 T (.tup [x, y])) S ∧ Rep K C g2.G g2.ρ (.tup [d, e]) (.ref T) := by
  have st : Stp (cE false) g1 H1 (g1.frz T (.tup [x, y])) (upd H1 T (.tup [x, y])) := stp_frz hT s.sub
  exact ⟨_, st, sto_frz s hT, .tup (.of upd_same) (.cons (h1.step st) (.cons (h2.step st) .nil))⟩
theorem walkD_enum {a : Addr} {xs : List V} {ds : List D} (h : ∀ g1 H1, Stp c g H g1 H1 → Same g1.G H1 → SqL K H1 a xs) (r : Reps K C g.G g.ρ ds xs) : WalkD K C c g H (Ite K a) (ds.zipIdx.map fun p => .tup [.int (p.2 : Nat), p.1]) := by
  refine ⟨fun H => SqL K H a xs, YPair (fun i => some (.int (i : Nat))) (fun i => xs[i]?), by rw [List.length_map, List.length_zipIdx, r.length]; exact walk_enum, h, fun i g1 H1 x H2 S d st s e y => ?_⟩
  obtain ⟨T, u, w, rfl, hT, rfl, hu, hw⟩ := y
  cases hu
  rw [List.getElem?_map, List.getElem?_zipIdx] at e
  cases q : ds[i]? with
  | none => rw [q] at e; cases e
  | some d0 =>
    rw [q] at e
    cases e
    obtain ⟨v, h1, h2⟩ := r.get q
    have hw : xs[i]? = some w := hw
    rw [h1] at hw; cases hw
    simp only [Nat.zero_add]
    exact pair_step s hT (.int _) (h2.step st)
theorem zip_at {ds es : List D} {i : Nat} {d : D} (e : ((ds.zip es).map fun p => D.tup [p.1, p.2])[i]? = some d) : ∃ x y, ds[i]? = some x ∧ es[i]? = some y ∧ d = .tup [x, y] := by
  rw [List.getElem?_map] at e
  obtain ⟨⟨x, y⟩, h1, rfl⟩ := Option.map_eq_some_iff.mp e
  obtain ⟨h2, h3⟩ := List.getElem?_zip_eq_some.mp h1
  exact ⟨x, y, h2, h3, rfl⟩
theorem walkD_zip {a b : Addr} {xs ys : List V} {ds es : List D} (h : ∀ g1 H1, Stp c g H g1 H1 → Same g1.G H1 → SqL K H1 a xs ∧ SqL K H1 b ys) (r : Reps K C g.G g.ρ ds xs) (r2 : Reps K C g.G g.ρ es ys) : WalkD K C c g H (Itz K a b) ((ds.zip es).map fun p => .tup [p.1, p.2]) := by
  refine ⟨fun H => SqL K H a xs ∧ SqL K H b ys, YPair (fun i => xs[i]?) (fun i => ys[i]?), by rw [List.length_map, List.length_zip]; exact walk_zip (by rw [r.length, r2.length]), h, fun i g1 H1 x H2 S d st s e y => ?_⟩
  obtain ⟨T, u, w, rfl, hT, rfl, hu, hw⟩ := y
  obtain ⟨d1, d2, e1, e2, rfl⟩ := zip_at e
  obtain ⟨v, h1, h2⟩ := r.get e1
  have hu : xs[i]? = some u := hu
  have hw : ys[i]? = some w := hw
  rw [h1] at hu; cases hu
  obtain ⟨v, k1, k2⟩ := r2.get e2
  rw [k1] at hw; cases hw
  exact pair_step s hT (h2.step st) (k2.step st)
theorem walk_zipT {a b : Addr} {xs ys : List V} {n : Nat} (hn : n = min xs.length ys.length) : Walk (RZ.ItzT K a b) n (fun H => SqT K H a xs ∧ SqT K H b ys) (YPair (fun i => xs[i]?) (fun i => ys[i]?)) := by
  subst hn
  refine ⟨fun i _ hi q => ?_, fun _ q => ⟨xs, ys, q.1, q.2, by omega⟩, fun i H v H' _ q y => ?_⟩
  · have h1 : i < xs.length := by omega
    have h2 : i < ys.length := by omega
    exact ⟨xs, ys, xs[i], ys[i], q.1, q.2, by simp [h1], by simp [h2]⟩
  · obtain ⟨T, x, z, h1, h2, h3, h4, h5⟩ := y
    exact ⟨T, x, z, h1, h2, h3, h4 xs q.1, h5 ys q.2⟩
theorem walkD_zipT {a b : Addr} {xs ys : List V} {ds es : List D} (h : ∀ g1 H1, Stp c g H g1 H1 → Same g1.G H1 → SqT K H1 a xs ∧ SqT K H1 b ys) (r : Reps K C g.G g.ρ ds xs) (r2 : Reps K C g.G g.ρ es ys) : WalkD K C c g H (RZ.ItzT K a b) ((ds.zip es).map fun p => .tup [p.1, p.2]) := by
  refine ⟨fun H => SqT K H a xs ∧ SqT K H b ys, YPair (fun i => xs[i]?) (fun i => ys[i]?), by rw [List.length_map, List.length_zip]; exact walk_zipT (by rw [r.length, r2.length]), h, fun i g1 H1 x H2 S d st s e y => ?_⟩
  obtain ⟨T, u, w, rfl, hT, rfl, hu, hw⟩ := y
  obtain ⟨d1, d2, e1, e2, rfl⟩ := zip_at e
  obtain ⟨v, h1, h2⟩ := r.get e1
  have hu : xs[i]? = some u := hu
  have hw : ys[i]? = some w := hw
  rw [h1] at hu; cases hu
  obtain ⟨v, k1, k2⟩ := r2.get e2
  rw [k1] at hw; cases hw
  exact pair_step s hT (h2.step st) (k2.step st)
theorem walkD_str {z : Str} : WalkD K C c g H (Its z) (signs z) := by
  refine ⟨fun _ => True, _, by unfold signs; rw [List.length_map]; exact walk_str, fun _ _ _ _ => trivial, fun i g1 H1 x H2 S d st s e y => ?_⟩
  obtain ⟨rfl, k, hk, rfl⟩ := y
  unfold signs at e
  rw [List.getElem?_map] at e
  have : z.cps.toList[i]? = some k := by simpa using hk
  rw [this] at e
  cases e
  exact ⟨g1, Stp.refl, s, .str _⟩
end
theorem pi_either {X : Cx} {tg e : Expr} {t t' : TI} (h : PI X tg e t) (h' : PI X tg e t') : PI X tg e (fun σ H R => t σ H R ∨ t' σ H R) := ⟨fun pins s σ H R I q => q.elim (h.run pins s σ H R I) (h'.run pins s σ H R I)⟩
section
variable {X : Cx} {J : Jd} {Γ : List Bool} {c : Ow → Bool} {tg a b e e2 : Expr} {ma mb mc : Mx D} {ms : Mx (List D)} {p p2 pos tpos : Pos} {elts : List Expr} {kk : Nat}
theorem seqA_run {K : PySem.W.Frag} {σ : L2.St} {sl : List (Option D)} {g : Gh} {H : Hp} {S : Sto} {R : It → Hp → Prop} (rl : Rel K J.C Γ g sl S σ H) (p : PI' K J c Γ σ sl g H R (mSeqA ma sl S)) (hk : ∀ m : Mx (List D), tI K J c Γ (mSeq ma) σ H R → True) : (∃ z S', ma sl S = .ok (.str z) S') ∨ PI' K J c Γ σ sl g H R (mSeq ma sl S) := by
  unfold mSeqA bindX at p
  unfold mSeq bindX
  cases e : ma sl S with
  | ok d S' =>
    rw [e] at p
    cases d <;> first | exact .inl ⟨_, _, rfl⟩ | exact .inr p
  | err x S' => rw [e] at p; exact .inr p
  | stuck => rw [e] at p; exact .inr p
theorem si_seqA (h : SD X J Γ e ma) : SI X J c Γ tg e (mSeqA ma) := PI.imp (pi_either (si_seq (c := c) h) (pi_str h)) fun σ H R q => by
  obtain ⟨g, sl, S, rl, p⟩ := q
  rcases seqA_run rl p (fun _ _ => trivial) with ⟨z, S', e⟩ | p'
  · refine .inr (tD_iff.mpr ⟨g, sl, S, rl, ?_⟩)
    unfold mSeqA bindX at p
    rw [e] at p ⊢
    intro g' H' v st r' b
    cases b
    exact ⟨z, rfl, p g' H' _ st r' walkD_str⟩
  · exact .inl ⟨g, sl, S, rl, p'⟩
theorem si_seqAB (h : SB X J Γ e ma) : SI X J (cE J.lv) Γ tg e (mSeqA ma) := PI.imp (pi_either (si_seqB h) (pi_str h)) fun σ H R q => by
  obtain ⟨g, sl, S, rl, p⟩ := q
  rcases seqA_run rl p (fun _ _ => trivial) with ⟨z, S', e⟩ | p'
  · refine .inr (tBo_iff.mpr ⟨g, sl, S, rl, ?_⟩)
    unfold mSeqA bindX at p
    rw [e] at p ⊢
    intro g' H' v st r' b
    cases b.str
    exact ⟨z, rfl, p g' H' _ st r' walkD_str⟩
  · exact .inl ⟨g, sl, S, rl, p'⟩
theorem si_enum (h : SD X J Γ e ma) (hm : X.mg "enumerate" = none) (hg : Gl X "enumerate" := by rfl) (hs : starEach [e] X.env = [(false, eval e X.env)] := by rfl) : SI X J c Γ (.Tuple elts kk tpos) (.Call (.Name "enumerate" p) [e] [] pos) (mEnum ma) :=
  PI.imp (pi_enum hg hm (pa_cons h pa_nil (by exact hs)) hs) fun σ H R q => by
    obtain ⟨g, sl, S, rl, p⟩ := q
    refine chD postI rl p fun g1 H1 d S1 x st1 r1 b1 p1 => ?_
    obtain ⟨z, hz, p2⟩ := ofO_of postI p1
    cases d <;> first | cases hz | skip
    cases b1 with
    | lst s r => exact ⟨_, _, rfl, sqL_mono r1.sub s, p2 g1 H1 _ Stp.refl r1 (walkD_enum (fun g2 H2 st ss => sqL_mono ss (sqL_mono st.gG s)) r)⟩
theorem si_zip (h : SD X J Γ e ma) (h2 : SD X J Γ e2 mb) (hm : X.mg "zip" = none) (hg : Gl X "zip" := by rfl) (hs : starEach [e, e2] X.env = (false, eval e X.env) :: starEach [e2] X.env := by rfl) (hpl : (backTo pos (starEach [e2] X.env)).any (·.1) = false := by rfl) (hs2 : starEach [e2] X.env = (false, eval e2 X.env) :: starEach [] X.env := by rfl) : SI X J c Γ (.Tuple elts kk tpos) (.Call (.Name "zip" p) [e, e2] [] pos) (mZip ma mb) :=
  PI.imp (RZ.pi_zipA hg hm (pa_cons h (pa_cons h2 pa_nil hs2) hs) hs hpl) fun σ H R q => by
    obtain ⟨g, sl, S, rl, p⟩ := q
    refine chD postI rl p fun g1 H1 d S1 x st1 r1 b1 p1 => ?_
    refine chD postI r1 p1 fun g2 H2 d2 S2 x2 st2 r2 b2 p2 => ?_
    obtain ⟨z, hz, p3⟩ := ofO_of postI p2
    cases d <;> first | (cases d2 <;> cases hz; done) | skip
    · cases d2 <;> first | cases hz | skip
      cases b1 with
      | lst s r =>
      cases b2 with
      | lst s' r' =>
        have s := sqL_mono st2.gG s
        have r := r.step st2
        exact ⟨_, _, _, _, rfl, .inl ⟨sqL_mono r2.sub s, sqL_mono r2.sub s', p3 g2 H2 _ Stp.refl r2 (walkD_zip (fun g2 H2 st ss => ⟨sqL_mono ss (sqL_mono st.gG s), sqL_mono ss (sqL_mono st.gG s')⟩) r r')⟩⟩
    · cases d2 <;> first | cases hz | skip
      cases b1 with
      | tup s r =>
      cases b2 with
      | tup s' r' =>
        have s := sqT_mono st2.gG s
        have r := r.step st2
        exact ⟨_, _, _, _, rfl, .inr ⟨sqT_mono r2.sub s, sqT_mono r2.sub s', p3 g2 H2 _ Stp.refl r2 (walkD_zipT (fun g2 H2 st ss => ⟨sqT_mono ss (sqT_mono st.gG s), sqT_mono ss (sqT_mono st.gG s')⟩) r r')⟩⟩
end

/-! ### list(range(..)) -/
theorem rgV_reps {K : PySem.W.Frag} {C : Cfg} {G : Hp} {ρ : List Addr} (i j : Int) : Reps K C G ρ (rng i (j - i).toNat) (rgV i j) := by
  unfold rng rgV
  generalize (j - i).toNat = n
  have : ∀ l : List Nat, Reps K C G ρ (l.map fun (k : Nat) => D.int (i + k)) (l.map fun (k : Nat) => V.int (i + k)) := by
    intro l
    induction l with
    | nil => exact .nil
    | cons a l ih => exact .cons (.int _) ih
  exact this _
def okR (i j : Int) : Bool := decide (-(2 ^ 24) ≤ i ∧ i ≤ 2 ^ 22 ∧ -(2 ^ 24) ≤ j ∧ j ≤ 2 ^ 22 ∧ (j - i).toNat ≤ 2 ^ 24)
theorem okR_rg {i j : Int} (h : okR i j = true) : RgOk i j := by
  have h := of_decide_eq_true h
  exact ⟨by omega, by omega, by omega, by omega, h.2.2.2.2⟩
def kR1 : List D → Option (List D)
  | [.int j] => if okR 0 j = true then some (rng 0 (j - 0).toNat) else none
  | _ => none
def kR2 : List D → Option (List D)
  | [.int i, .int j] => if okR i j = true then some (rng i (j - i).toNat) else none
  | _ => none
def mLRg (k : List D → Option (List D)) (m : Mx (List D)) : Mx D := bindX m fun ds => ofO ((k ds).map .lst)
def mTRg (k : List D → Option (List D)) (m : Mx (List D)) : Mx D := bindX m fun ds => ofO ((k ds).map .tup)
section
variable {X : Cx} {J : Jd} {Γ : List Bool} {a b e : Expr} {ma mb : Mx D} {p p2 pos rpos : Pos}
theorem bindX_assoc {α β γ : Type} {m : Mx α} {f : α → Mx β} {h : β → Mx γ} {sl : List (Option D)} {S : Sto} : bindX (bindX m f) h sl S = bindX m (fun x => bindX (f x) h) sl S := by
  unfold bindX
  cases m sl S <;> rfl
theorem rg1_run {K : PySem.W.Frag} {σ : L2.St} {sl : List (Option D)} {g : Gh} {H : Hp} {S : Sto} {P : Gh → Hp → Rx D → Prop} {ff : List D → D} {R : Int → Int → Hp → Prop} (hP : Post K J Γ σ sl P) (r : Rel K J.C Γ g sl S σ H) (h : P g H (bindX (mCons ma mNil) (fun ds => ofO ((kR1 ds).map ff)) sl S))
    (k : ∀ g1 H1 i j S1, Stp (cE J.lv) g H g1 H1 → Rel K J.C Γ g1 sl S1 σ H1 → RgOk i j → P g1 H1 (.ok (ff (rng i (j - i).toNat)) S1) → R i j H1) : tRg1 (tD K J Γ ma) σ H R := by
  have h2 : P g H (bindX ma (fun d => ofO ((kR1 [d]).map ff)) sl S) := by
    unfold mCons at h
    rw [bindX_assoc] at h
    have e : (bindX ma (fun x => bindX (bindX mNil fun ds => pureX (x :: ds)) (fun ds => ofO ((kR1 ds).map ff))) sl S) = (bindX ma (fun d => ofO ((kR1 [d]).map ff)) sl S) := by
      unfold bindX
      cases ma sl S <;> rfl
    rw [e] at h; exact h
  refine chD hP r h2 fun g1 H1 d S1 x st1 r1 b1 p1 => ?_
  obtain ⟨z, hz, p2⟩ := ofO_of hP p1
  obtain ⟨ds, hd, rfl⟩ := Option.map_eq_some_iff.mp hz
  cases d <;> first | cases hd | skip
  rename_i j
  have hd : (if okR 0 j = true then some (rng 0 (j - 0).toNat) else none) = some ds := hd
  split at hd
  · rename_i ho
    cases hd
    cases b1
    exact ⟨j, rfl, k g1 H1 0 j S1 st1 r1 (okR_rg ho) p2⟩
  · cases hd
theorem rg2_run {K : PySem.W.Frag} {σ : L2.St} {sl : List (Option D)} {g : Gh} {H : Hp} {S : Sto} {P : Gh → Hp → Rx D → Prop} {ff : List D → D} {R : Int → Int → Hp → Prop} (hP : Post K J Γ σ sl P) (r : Rel K J.C Γ g sl S σ H) (h : P g H (bindX (mCons ma (mCons mb mNil)) (fun ds => ofO ((kR2 ds).map ff)) sl S))
    (k : ∀ g1 H1 i j S1, Stp (cE J.lv) g H g1 H1 → Rel K J.C Γ g1 sl S1 σ H1 → RgOk i j → P g1 H1 (.ok (ff (rng i (j - i).toNat)) S1) → R i j H1) : tRg2 (tD K J Γ ma) (tD K J Γ mb) σ H R := by
  have h2 : P g H (bindX ma (fun d => bindX mb fun e => ofO ((kR2 [d, e]).map ff)) sl S) := by
    have e : (bindX (mCons ma (mCons mb mNil)) (fun ds => ofO ((kR2 ds).map ff)) sl S) = (bindX ma (fun d => bindX mb fun e => ofO ((kR2 [d, e]).map ff)) sl S) := by
      unfold mCons mNil pureX bindX
      cases e1 : ma sl S with
      | ok d S1 => simp only; cases mb sl S1 <;> rfl
      | err x S1 => rfl
      | stuck => rfl
    rw [e] at h; exact h
  refine chD hP r h2 fun g1 H1 d S1 x st1 r1 b1 p1 => ?_
  refine chD hP r1 p1 fun g2 H2 d2 S2 x2 st2 r2 b2 p1 => ?_
  obtain ⟨z, hz, p2⟩ := ofO_of hP p1
  obtain ⟨ds, hd, rfl⟩ := Option.map_eq_some_iff.mp hz
  cases d with
  | int i =>
    cases d2 with
    | int j =>
      have hd : (if okR i j = true then some (rng i (j - i).toNat) else none) = some ds := hd
      split at hd
      · rename_i ho
        cases hd
        cases b1
        cases b2
        exact ⟨i, j, rfl, rfl, k g2 H2 i j S2 (st1.trans st2) r2 (okR_rg ho) p2⟩
      · cases hd
    | _ => cases hd
  | _ => cases hd
theorem sd_listR1 (hc : X.calm = true) (hm : X.mg "list" = none) (hm2 : X.mg "range" = none) (ha : SD X J Γ a ma) (hg : Gl X "list" := by rfl) (hg2 : Gl X "range" := by rfl) (na : starEach [a] X.env = (false, eval a X.env) :: starEach [] X.env := by rfl)
    (na2 : starEach [.Call (.Name "range" p2) [a] [] rpos] X.env = (false, eval (.Call (.Name "range" p2) [a] [] rpos) X.env) :: starEach [] X.env := by rfl) : SD X J Γ (.Call (.Name "list" p) [.Call (.Name "range" p2) [a] [] rpos] [] pos) (mLRg kR1 (mCons ma mNil)) :=
  PE.imp (pe_listRg hc hg hm (prg_1 hg2 hm2 ha na) na2) fun σ H Q q => by
    obtain ⟨g, sl, S, rl, p⟩ := tD_iff.mp q
    exact rg1_run postD rl p fun g1 H1 i j S1 st1 r1 ho p2 => ⟨ho, fun q hq => p2.newL r1 hq (rgV_reps i j)⟩
theorem sn_listR1 (hc : X.calm = true) (hm : X.mg "list" = none) (hm2 : X.mg "range" = none) (ha : SD X J Γ a ma) (hg : Gl X "list" := by rfl) (hg2 : Gl X "range" := by rfl) (na : starEach [a] X.env = (false, eval a X.env) :: starEach [] X.env := by rfl)
    (na2 : starEach [.Call (.Name "range" p2) [a] [] rpos] X.env = (false, eval (.Call (.Name "range" p2) [a] [] rpos) X.env) :: starEach [] X.env := by rfl) : SN X J Γ (.Call (.Name "list" p) [.Call (.Name "range" p2) [a] [] rpos] [] pos) (mLRg kR1 (mCons ma mNil)) :=
  PE.imp (pe_listRg hc hg hm (prg_1 hg2 hm2 ha na) na2) fun σ H Q q => by
    obtain ⟨g, sl, S, rl, p⟩ := tNw_iff.mp q
    exact rg1_run postN rl p fun g1 H1 i j S1 st1 r1 ho p2 => ⟨ho, fun q hq => p2.newL r1 hq (rgV_reps i j)⟩
theorem sd_tupR1 (hc : X.calm = true) (hm : X.mg "tuple" = none) (hm2 : X.mg "range" = none) (ha : SD X J Γ a ma) (hg : Gl X "tuple" := by rfl) (hg2 : Gl X "range" := by rfl) (na : starEach [a] X.env = (false, eval a X.env) :: starEach [] X.env := by rfl)
    (na2 : starEach [.Call (.Name "range" p2) [a] [] rpos] X.env = (false, eval (.Call (.Name "range" p2) [a] [] rpos) X.env) :: starEach [] X.env := by rfl) : SD X J Γ (.Call (.Name "tuple" p) [.Call (.Name "range" p2) [a] [] rpos] [] pos) (mTRg kR1 (mCons ma mNil)) :=
  PE.imp (pe_tupRg hc hg hm (prg_1 hg2 hm2 ha na) na2) fun σ H Q q => by
    obtain ⟨g, sl, S, rl, p⟩ := tD_iff.mp q
    exact rg1_run postD rl p fun g1 H1 i j S1 st1 r1 ho p2 => ⟨ho, fun q hq => p2.newT r1 hq (rgV_reps i j)⟩
theorem sd_listR2 (hc : X.calm = true) (hm : X.mg "list" = none) (hm2 : X.mg "range" = none) (ha : SD X J Γ a ma) (hb : SD X J Γ b mb) (hg : Gl X "list" := by rfl) (hg2 : Gl X "range" := by rfl) (na : starEach [a, b] X.env = (false, eval a X.env) :: starEach [b] X.env := by rfl) (nb : starEach [b] X.env = (false, eval b X.env) :: starEach [] X.env := by rfl) (hp : (backTo rpos (starEach [b] X.env)).any (·.1) = false := by rfl)
    (na2 : starEach [.Call (.Name "range" p2) [a, b] [] rpos] X.env = (false, eval (.Call (.Name "range" p2) [a, b] [] rpos) X.env) :: starEach [] X.env := by rfl) : SD X J Γ (.Call (.Name "list" p) [.Call (.Name "range" p2) [a, b] [] rpos] [] pos) (mLRg kR2 (mCons ma (mCons mb mNil))) :=
  PE.imp (pe_listRg hc hg hm (prg_2 hg2 hm2 ha hb na nb hp) na2) fun σ H Q q => by
    obtain ⟨g, sl, S, rl, p⟩ := tD_iff.mp q
    exact rg2_run postD rl p fun g1 H1 i j S1 st1 r1 ho p2 => ⟨ho, fun q hq => p2.newL r1 hq (rgV_reps i j)⟩
end

/-! ### isinstance of an own class -/
/-- what is known of an object's class, asked for the class at Ct -/
structure OwnIs (K : PySem.W.Frag) (C Ct : Addr) (b : Bool) : Prop where
  cl : Cls K C
  ha : PySem.W.findIn K (.ref C) "__class__" = some (some (.builtin "object.__class__"))
  hn : PySem.W.specialIn K (.builtin "object.__class__") "__get__" = some (some (.builtin "getset_descriptor.__get__"))
  ht : PySem.W.takesIn K (.builtin "object.__class__") = some true
  hm : PySem.W.mroIn K C (.type "object") = some true
  is_ : PySem.W.kitOne K (.ref C) (.ref Ct) = some b
def tyNames : List String := ["NoneType", "bool", "int", "str", "list", "tuple", "dict"]
def NotTy (K : PySem.W.Frag) (Ct : Addr) : Prop := ∀ n ∈ tyNames, PySem.W.kitOne K (.type n) (.ref Ct) = some false
def mIso (tb : List (Nat × Bool)) (m : Mx D) : Mx D := bindX m fun d sl S => match clsOf S d with
  | some c => match tb.lookup c with
    | some b => .ok (.bl b) S
    | none => .stuck
  | none => if dNm d ≠ "" then .ok (.bl false) S else .stuck
def IsoAt (K : PySem.W.Frag) (C : Cfg) (Ct : Addr) (tb : List (Nat × Bool)) : Prop := ∀ c b, tb.lookup c = some b → OwnIs K (C.ca c) Ct b
theorem isoAt_nil {K : PySem.W.Frag} {C : Cfg} {Ct : Addr} : IsoAt K C Ct [] := fun c b h => by cases h
theorem isoAt_cons {K : PySem.W.Frag} {C : Cfg} {Ct : Addr} {c : Nat} {b : Bool} {tb : List (Nat × Bool)} (h : OwnIs K (C.ca c) Ct b) (r : IsoAt K C Ct tb) : IsoAt K C Ct ((c, b) :: tb) := fun c' b' e => by
  rw [List.lookup_cons] at e
  split at e
  · rename_i q
    cases e
    rw [beq_iff_eq] at q
    subst q; exact h
  · exact r c' b' e
theorem dNm_mem {d : D} (h : dNm d ≠ "") : dNm d ∈ tyNames := by
  cases d <;> first | exact absurd rfl h | (dsimp only [dNm]; decide)
section
variable {X : Cx} {J : Jd} {Γ : List Bool} {a b c e : Expr} {ma mb mc : Mx D} {p p2 pos : Pos}
theorem sd_iso (tb : List (Nat × Bool)) {x y : Str} {Ct : Addr} (ha : SB X J Γ a ma) (hI : IsoAt X.K J.C Ct tb) (hN : NotTy X.K Ct) (hm : X.mg x = none) (hv : bootBuiltins x = some (.builtin "isinstance")) (hm2 : X.mg y = some (.ref Ct)) (hg : Gl X x := by rfl) (hg2 : Gl X y := by rfl)
    (hn : x ≠ "__name__" := by decide) (hdb : (x == ("__debug__" : Str)) = false := by decide) (hdb2 : (y == ("__debug__" : Str)) = false := by decide)
    (he : starEach [a, .Name y p2] X.env = (false, eval a X.env) :: starEach [.Name y p2] X.env := by rfl) (he2 : starEach [.Name y p2] X.env = (false, eval (.Name y p2) X.env) :: starEach [] X.env := by rfl) (hpl : (backTo pos (starEach [.Name y p2] X.env)).any (·.1) = false := by rfl) :
    SD X J Γ (.Call (.Name x p) [a, .Name y p2] [] pos) (mIso tb ma) :=
  PE.imp (pe_callB (call_isi (X := X)) hg hm hv (pa_cons ha (pa_cons (pe_glob (v := .ref Ct) hg2 hm2 rfl hdb2) pa_nil he2) he) hn hdb he hpl) fun σ H Q q => by
    obtain ⟨g, sl, S, rl, p⟩ := tD_iff.mp q
    refine chB postD rl p fun g1 H1 d S1 x st1 r1 b1 p1 => ?_
    have p1 : PD X.K J Γ σ sl g1 H1 Q (match clsOf S1 d with
      | some c => match tb.lookup c with
        | some b => .ok (.bl b) S1
        | none => .stuck
      | none => if dNm d ≠ "" then .ok (.bl false) S1 else .stuck) := p1
    cases ec : clsOf S1 d with
    | some c =>
      rw [ec] at p1
      cases et : tb.lookup c with
      | none => simp only [et] at p1; exact p1.elim
      | some k =>
        simp only [et] at p1
        have O := hI c k et
        have bb : Rep X.K J.C g1.G g1.ρ d x := by
          cases d <;> first | (cases ec; done) | skip
          · obtain ⟨a, rfl, h⟩ := b1.ref; exact .ref h
          · exact b1.obj
        obtain ⟨a, dx, fs, rfl, ea, _⟩ := obj_view r1.sto bb ec
        exact ⟨_, .ref Ct, .ref (J.C.ca c), .ref Ct, k, rfl, .own _, .base (.ins ea O.cl O.ha O.hn O.ht O.hm), O.is_, PD.now p1 r1 (.bl _)⟩
    | none =>
      rw [ec] at p1
      by_cases hd : dNm d ≠ ""
      · simp only [if_pos hd] at p1
        exact ⟨x, .ref Ct, .type (dNm d), .ref Ct, false, rfl, .own _, tyX_of b1 r1.sub hd, hN _ (dNm_mem hd), PD.now p1 r1 (.bl _)⟩
      · simp only [if_neg hd] at p1
        exact p1.elim
end
end Sm
set_option Elab.async false
set_option linter.all false
set_option maxRecDepth 100000
set_option maxHeartbeats 2000000
/-! Sim 22: calls with positional values, keywords and defaults; properties. -/
namespace Sm
open PySem PySem.Spec PyProof.Rows L2

/-! ### where the values of the further parameters come from -/
inductive Src where
  | kw (i : Nat) | df (i : Nat)
def selV (ss : List Src) (df zs : List V) : List V := ss.map fun s => match s with | .kw i => zs.getD i .non | .df i => df.getD i .non
def selU (ss : List Src) (df zs : List Value) : List Value := ss.map fun s => match s with | .kw i => zs.getD i .none | .df i => df.getD i .none
def selD (ss : List Src) (df zs : List D) : List D := ss.map fun s => match s with | .kw i => zs.getD i .non | .df i => df.getD i .non
theorem getD_vals {zs : List V} {ws : List Value} (r : Vals zs ws) (i : Nat) : RelV (zs.getD i .non) (ws.getD i .none) := by
  cases e : zs[i]? with
  | none =>
    have e2 : ws[i]? = none := List.getElem?_eq_none (by rw [← r.length]; exact List.getElem?_eq_none_iff.mp e)
    simp only [List.getD_eq_getElem?_getD, e, e2]; rfl
  | some v =>
    obtain ⟨u, hu, ru⟩ := r.get e
    simp only [List.getD_eq_getElem?_getD, e, hu]; exact ru
theorem getD_reps {K : PySem.W.Frag} {C : Cfg} {G : Hp} {ρ : List Addr} {ds : List D} {zs : List V} (r : Reps K C G ρ ds zs) (i : Nat) : Rep K C G ρ (ds.getD i .non) (zs.getD i .non) := by
  cases e : ds[i]? with
  | none =>
    have e2 : zs[i]? = none := List.getElem?_eq_none (by rw [← r.length]; exact List.getElem?_eq_none_iff.mp e)
    simp only [List.getD_eq_getElem?_getD, e, e2]; exact .non
  | some v =>
    obtain ⟨u, hu, ru⟩ := r.get e
    simp only [List.getD_eq_getElem?_getD, e, hu]; exact ru
theorem sel_vals {df zs : List V} {du ws : List Value} (r0 : Vals df du) (r : Vals zs ws) : ∀ ss : List Src, Vals (selV ss df zs) (selU ss du ws)
  | [] => .nil
  | .kw i :: ss => .cons (getD_vals r i) (sel_vals r0 r ss)
  | .df i :: ss => .cons (getD_vals r0 i) (sel_vals r0 r ss)
theorem sel_reps {K : PySem.W.Frag} {C : Cfg} {G : Hp} {ρ : List Addr} {df ds : List D} {du zs : List V} (r0 : Reps K C G ρ df du) (r : Reps K C G ρ ds zs) : ∀ ss : List Src, Reps K C G ρ (selD ss df ds) (selV ss du zs)
  | [] => .nil
  | .kw i :: ss => .cons (getD_reps r i) (sel_reps r0 r ss)
  | .df i :: ss => .cons (getD_reps r0 i) (sel_reps r0 r ss)
/-- n positional values, keywords ks, the further parameters by ss -/
def KG (K : PySem.W.Frag) (fd : FuncData) (ps ks : List Str) (n : Nat) (ss : List Src) (df : List D) : Prop :=
  ∃ du : List Value, Csts K df du ∧ ∀ (s : Shared) (us ws : List Value), K.In s.heap → us.length = n → ws.length = ks.length → BindsTo s fd ⟨us, ks.zip ws⟩ (ps.zip (us ++ selU ss du ws))

/-! ### defs with defaults -/
def DflC (K : PySem.W.Frag) (dV : Value) (dfs : List D) : Prop := (dfs = [] ∧ dV = .none) ∨ (dfs ≠ [] ∧ ∃ (T : Addr) (o : Obj) (its : List Value) (n : Nat), dV = .ref T ∧ K.lookup T = some o ∧ o.data = .seq its.toArray n ∧ Csts K dfs its)
def KwC (K : PySem.W.Frag) (kV : Value) (kws : List (Str × D)) : Prop := kws = [] ∨ ∃ D0 : Addr, kV = .ref D0 ∧ ∀ q ∈ kws, ∃ u, PySem.W.nsIn K D0 q.1 = some (some u) ∧ Cst K q.2 u
structure FunX (K : PySem.W.Frag) (x qual : Str) (st : Stmt) (dfs : List D) (kws : List (Str × D)) (f : Addr) (fd : FuncData) : Prop where
  ex : ∃ (oc : Value) (od : Option Addr) (dV kV doc pm : Value) (an : Option Addr) (cdv ct : Value) (osl : Array (Option Value)),
    fd = PySem.W.fnOf x qual (defArgs st) (defBody st) (defScope st) dV kV doc pm an cdv ct ∧ K.lookup f = some ⟨oc, od, .func fd, osl⟩ ∧ PySem.W.codeIn K cdv qual = true ∧ DflC K dV dfs ∧ KwC K kV kws
  kp : PySem.W.keepIn K (.ref f) = true
theorem Csts.length {K : PySem.W.Frag} : ∀ {ds : List D} {us : List Value}, Csts K ds us → us.length = ds.length
  | _, _, .nil => rfl
  | _, _, .cons _ t => by rw [List.length_cons, List.length_cons, Csts.length t]
theorem Csts.append {K : PySem.W.Frag} : ∀ {ds es : List D} {us vs : List Value}, Csts K ds us → Csts K es vs → Csts K (ds ++ es) (us ++ vs)
  | _, _, _, _, .nil, h => h
  | _, _, _, _, .cons a t, h => .cons a (Csts.append t h)
theorem kw_vals {K : PySem.W.Frag} {D0 : Addr} : ∀ {ms : List (Str × D)}, (∀ q ∈ ms, ∃ u, PySem.W.nsIn K D0 q.1 = some (some u) ∧ Cst K q.2 u) →
    ∃ us : List Value, us.length = ms.length ∧ Csts K (ms.map (·.2)) us ∧ ∀ q ∈ (ms.map (·.1)).zip us, PySem.W.nsIn K D0 q.1 = some (some q.2)
  | [], _ => ⟨[], rfl, .nil, fun q hq => by cases hq⟩
  | m :: ms, h => by
    obtain ⟨u, e1, e2⟩ := h m (List.mem_cons_self ..)
    obtain ⟨us, l, r, a⟩ := kw_vals (ms := ms) fun q hq => h q (List.mem_cons_of_mem _ hq)
    refine ⟨u :: us, congrArg Nat.succ l, .cons e2 r, fun q hq => ?_⟩
    rcases List.mem_cons.mp (show q ∈ (m.1, u) :: (ms.map (·.1)).zip us from hq) with e | hq
    · rw [e]; exact e1
    · exact a q hq
section
variable {P : Program} {w : World} {K : PySem.W.Frag} {mg : Str → Option Value} {base : Heap} {x qual : Str} {st : Stmt} {dfs : List D} {kws : List (Str × D)} {f : Addr} {fd : FuncData} {ps ks : List Str} {ss : List Src} {n : Nat}
/-- a def without defaults, or where none is asked for -/
theorem Fun_x (F : Fun K x qual st f fd) : FunX K x qual st [] [] f fd := by
  obtain ⟨oc, od, kV, doc, pm, an, cdv, ct, osl, h1, h2, h3⟩ := F.ex
  exact ⟨⟨oc, od, .none, kV, doc, pm, an, cdv, ct, osl, h1, h2, h3, .inl ⟨rfl, rfl⟩, .inl rfl⟩, F.kp⟩
theorem Fun_kg (F : Fun K x qual st f fd)
    (h : ∀ (kV doc pm : Value) (an : Option Addr) (cdv ct : Value) (us ws : List Value), us.length = n → ws.length = ks.length → bindArgs (PySem.W.fnOf x qual (defArgs st) (defBody st) (defScope st) .none kV doc pm an cdv ct) ⟨us, ks.zip ws⟩ = pure (ps.zip (us ++ selU ss [] ws))) : KG K fd ps ks n ss [] := by
  obtain ⟨oc, od, kV, doc, pm, an, cdv, ct, osl, rfl, lk, hcd⟩ := F.ex
  exact ⟨[], .nil, fun s us ws _ h1 h2 => .of_eq (h kV doc pm an cdv ct us ws h1 h2)⟩
/-- .. keyword-only defaults ms are asked for -/
theorem FunX.kg0 (F : FunX K x qual st [] kws f fd) (ms : List (Str × D)) (hk : kws ≠ []) (hms : ∀ q ∈ ms, q ∈ kws)
    (h : ∀ (D0 : Addr) (doc pm : Value) (an : Option Addr) (cdv ct : Value) (us mv ws : List Value), us.length = n → mv.length = ms.length → ws.length = ks.length →
      KwChain D0 ((ms.map (·.1)).zip mv) (bindArgs (PySem.W.fnOf x qual (defArgs st) (defBody st) (defScope st) .none (.ref D0) doc pm an cdv ct) ⟨us, ks.zip ws⟩) (ps.zip (us ++ selU ss mv ws))) : KG K fd ps ks n ss (ms.map (·.2)) := by
  obtain ⟨oc, od, dV, kV, doc, pm, an, cdv, ct, osl, rfl, lk, hcd, hD, hK⟩ := F.ex
  rcases hD with ⟨_, rfl⟩ | ⟨e, _⟩
  · rcases hK with e | ⟨D0, rfl, hq⟩
    · exact absurd e hk
    · obtain ⟨mv, hl, rk, hks⟩ := kw_vals (ms := ms) fun q hm => hq q (hms q hm)
      exact ⟨mv, rk, fun s us ws X l1 l2 => BindsTo.of_looks fun M => KwChain.looks X hks (h D0 doc pm an cdv ct us mv ws l1 hl l2)⟩
  · exact absurd rfl e
/-- .. positional defaults are asked for -/
theorem FunX.kg1 (F : FunX K x qual st dfs kws f fd) (hd : dfs ≠ [])
    (h : ∀ (T : Addr) (kV doc pm : Value) (an : Option Addr) (cdv ct : Value) (us its ws : List Value), us.length = n → its.length = dfs.length → ws.length = ks.length →
      ∃ k, bindArgs (PySem.W.fnOf x qual (defArgs st) (defBody st) (defScope st) (.ref T) kV doc pm an cdv ct) ⟨us, ks.zip ws⟩ = seqItems? (.ref T) >>= k ∧ k (some its.toArray) = pure (ps.zip (us ++ selU ss its ws))) : KG K fd ps ks n ss dfs := by
  obtain ⟨oc, od, dV, kV, doc, pm, an, cdv, ct, osl, rfl, lk, hcd, hD, hK⟩ := F.ex
  rcases hD with ⟨e, _⟩ | ⟨_, T, o, its, m, rfl, lT, oT, rT⟩
  · exact absurd e hd
  · refine ⟨its, rT, fun s us ws X l1 l2 => BindsTo.of_looks fun M => ?_⟩
    obtain ⟨k, e1, e2⟩ := h T kV doc pm an cdv ct us its ws l1 rT.length l2
    rw [e1]
    exact looks_items X lT oT (PySem.W.Looks.of_pure e2)
theorem fn_simX {C : Cfg} {lv fresh : Bool} {N : List Str} {k : Nat} {m : Ms} {ΓX Γ' : List Bool} (hca : C.cau = none) (F : FunX K x qual st dfs kws f fd) (Sc : FnScope N ps (defScope st))
    (hb : ∀ (cdv : Value) (A : Around) (outer : List Env) (s : Shared) (H : Hp) (E : XK), Room k (A.deeper (envOfC qual (defScope st) s.heap.objs.size f cdv)) →
      SSs (cxOf (L2N.CX P w) P w K mg base N qual (defScope st) f cdv A outer s H E) ⟨⟨C, fun cls d _ H => E cls d H, lv⟩, ΓX, [], fresh⟩ (List.replicate N.length false) Γ' (defBody st) m) :
    FnOk P w K mg base (L2N.CX P w) (k + 1) f fd ps (spF K C lv fresh (mFn ps.length N.length fresh m)) := by
  obtain ⟨oc, od, dV, kV, doc, pm, an, cdv, ct, osl, rfl, lk, hcd, _, _⟩ := F.ex
  refine fn_of lk hcd Sc (fun vs H Q E h => ?_) fun A outer s H vs Q E hr h => ?_
  · obtain ⟨g, ds, S, hn, hs, hd, p⟩ := h
    have z := (end_run (B := ⟨⟨C, fun cls d _ H => E cls d H, lv⟩, ΓX, [], fresh⟩) (Γ' := Γ') hn rfl p).1
    rw [← hd.length]; exact z
  · obtain ⟨g, ds, S, hn, hs, hd, p⟩ := h
    refine ⟨_, hb cdv A outer s H E hr, ?_⟩
    exact tSt_iff.mpr ⟨g, _, S, start_rel hca hs hd, (end_run (B := ⟨⟨C, fun cls d _ H => E cls d H, lv⟩, ΓX, [], fresh⟩) hn rfl p).2⟩
end

/-! ### the arguments of a call -/
abbrev TA2 := L2.St → Hp → (List V → List V → Hp → Prop) → Prop
def tArgs (K : PySem.W.Frag) (J : Jd) (Γ : List Bool) (ma mk : Mx (List D)) : TA2 := fun σ H R => tDs K J Γ ma σ H fun vs H1 => tDs K J Γ mk σ H1 fun zs H2 => R vs zs H2
def CArgs (X : Cx) (pos : Pos) (es : List Expr) (kws : List Keyword) (ks : List Str) (t : TA2) : Prop :=
  ∀ (fv : Value) (first : List Value) (pins : List (Addr × Obj)) (s : Shared) (σ : L2.St) (H : Hp) (R : List V → List V → Hp → Prop) (Q : Value → Shared → Prop), PySem.W.keepIn X.K fv = true → Inv X pins σ H s → t σ H R →
    (∀ us ws vs zs s' H', Inv X pins σ H' s' → Vals vs us → Vals zs ws → R vs zs H' → wpAny (model X.prog X.w) X.A (call fv (first ++ us) (ks.zip ws)) Q X.xe s') →
    wpAny (model X.prog X.w) X.A (callWith pos fv first (backTo pos (starEach es X.env)) (backToKw pos (keywordEach kws X.env))) Q X.xe s
section
variable {X : Cx} {J : Jd} {Γ : List Bool} {pos : Pos} {e : Expr} {es : List Expr} {kws : List Keyword} {ks : List Str} {ma mk : Mx (List D)}
theorem ca_none : CArgs X pos [] [] [] (tArgs X.K J Γ mNil mNil) := fun fv first pins s σ H R Q hk I q k => by
  have q1 := nil_run σ H _ q
  have q2 : R [] [] H := nil_run σ H _ q1
  exact PySem.W.callWith_K0 I.kIn hk (k [] [] [] [] s H I .nil .nil q2)
theorem ca_pos (ha : SDs X J Γ (e :: es) ma) (he : starEach (e :: es) X.env = (false, eval e X.env) :: starEach es X.env := by rfl) (hpl : (backTo pos (starEach es X.env)).any (·.1) = false := by rfl) : CArgs X pos (e :: es) [] [] (tArgs X.K J Γ ma mNil) := fun fv first pins s σ H R Q hk I q k => by
  refine PySem.W.callWith_K (h₀ := X.base) I.ok.mod.kin hk (thn (ha.run pos pins s σ H _ I q) fun us s1 hh => ?_) he hpl
  obtain ⟨vs, H1, I1, r, q1⟩ := hh
  have q2 : R vs [] H1 := nil_run σ H1 _ q1
  exact ⟨I1.kIn, k us [] vs [] s1 H1 I1 r .nil q2⟩
theorem ca_kw (ks : List Str) (hkw : SKs X J Γ kws mk) (hall : (backToKw pos (keywordEach kws X.env)).all (·.1.isSome) = true := by rfl) (hks : (backToKw pos (keywordEach kws X.env)).filterMap (·.1) = ks := by rfl)
    (hpl : ((backTo pos (starEach [] X.env)).any (·.1) || (backToKw pos (keywordEach kws X.env)).any (·.1.isNone)) = false := by rfl) : CArgs X pos [] kws ks (tArgs X.K J Γ mNil mk) := fun fv first pins s σ H R Q hk I q k => by
  have q1 := nil_run σ H _ q
  refine PySem.W.callWith_KW0 (h₀ := X.base) I.ok.mod.kin hk hall (thn (hkw.run pos pins s σ H _ I q1) fun ws s2 hh => ?_) hpl
  obtain ⟨zs, H2, I2, r, q2⟩ := hh
  refine ⟨I2.kIn, ?_⟩
  rw [hks]
  exact k [] ws [] zs s2 H2 I2 .nil r q2
theorem ca_both (ks : List Str) (ha : SDs X J Γ (e :: es) ma) (hkw : SKs X J Γ kws mk) (hall : (backToKw pos (keywordEach kws X.env)).all (·.1.isSome) = true := by rfl) (hks : (backToKw pos (keywordEach kws X.env)).filterMap (·.1) = ks := by rfl)
    (he : starEach (e :: es) X.env = (false, eval e X.env) :: starEach es X.env := by rfl) (hpl : ((backTo pos (starEach (e :: es) X.env)).any (·.1) || (backToKw pos (keywordEach kws X.env)).any (·.1.isNone)) = false := by rfl) : CArgs X pos (e :: es) kws ks (tArgs X.K J Γ ma mk) := fun fv first pins s σ H R Q hk I q k => by
  refine PySem.W.callWith_KW (h₀ := X.base) I.ok.mod.kin hk hall (thn (ha.run pos pins s σ H _ I q) fun us s1 hh => ?_) hpl he
  obtain ⟨vs, H1, I1, r, q1⟩ := hh
  refine thn (hkw.run pos pins s1 σ H1 _ I1 q1) fun ws s2 hh => ?_
  obtain ⟨zs, H2, I2, rz, q2⟩ := hh
  refine ⟨I2.kIn, ?_⟩
  rw [hks]
  exact k us ws vs zs s2 H2 I2 r rz q2
end
def mSel (n m : Nat) (ss : List Src) (df : List D) (ma mk : Mx (List D)) : Mx (List D) := bindX ma fun us => bindX mk fun zs => if us.length = n ∧ zs.length = m then pureX (us ++ selD ss df zs) else ofO none
section
variable {J : Jd} {Γ : List Bool} {ma mk : Mx (List D)}
theorem sel_post {K : PySem.W.Frag} {β : Type} {P : Gh → Hp → Rx β → Prop} {σ : L2.St} {sl : List (Option D)} {g : Gh} {H : Hp} {S : Sto} {n m : Nat} {ss : List Src} {df : List D} {F : List D → Mx β} {R : List V → List V → Hp → Prop} (hP : Post K J Γ σ sl P) (r : Rel K J.C Γ g sl S σ H) (h : P g H (bindX (mSel n m ss df ma mk) F sl S))
    (k : ∀ g1 H1 us zs vs ws S1, Stp (cE J.lv) g H g1 H1 → Rel K J.C Γ g1 sl S1 σ H1 → Reps K J.C g1.G g1.ρ us vs → Reps K J.C g1.G g1.ρ zs ws → us.length = n → zs.length = m → P g1 H1 (F (us ++ selD ss df zs) sl S1) → R vs ws H1) : tArgs K J Γ ma mk σ H R := by
  have h2 : P g H (bindX ma (fun us => bindX mk fun zs => bindX (if us.length = n ∧ zs.length = m then pureX (us ++ selD ss df zs) else ofO none) F) sl S) := by
    unfold mSel at h
    rw [bindX_assoc] at h
    have e : (bindX ma (fun x => bindX (bindX mk fun zs => if x.length = n ∧ zs.length = m then pureX (x ++ selD ss df zs) else ofO none) F) sl S) = (bindX ma (fun us => bindX mk fun zs => bindX (if us.length = n ∧ zs.length = m then pureX (us ++ selD ss df zs) else ofO none) F) sl S) := by
      unfold bindX
      cases ma sl S with
      | ok a S' =>
        simp only
        cases mk sl S' <;> rfl
      | err x S' => rfl
      | stuck => rfl
    rw [e] at h; exact h
  refine chDs hP r h2 fun g1 H1 us S1 vs st1 r1 b1 p1 => ?_
  refine chDs hP r1 p1 fun g2 H2 zs S2 ws st2 r2 b2 p2 => ?_
  by_cases hl : us.length = n ∧ zs.length = m
  · rw [if_pos hl] at p2
    exact k g2 H2 us zs vs ws S2 (st1.trans st2) r2 (b1.step st2) b2 hl.1 hl.2 p2
  · rw [if_neg hl] at p2
    exact (hP.stuck _ _ p2).elim
end
section
variable {X : Cx} {W : WX} {k : Nat} {x m : Str} {p pos apos : Pos} {o : Expr} {es : List Expr} {kws : List Keyword} {ks ps : List Str} {ta : TE} {t : TA2} {ss : List Src} {df : List D} {dv : List V} {n : Nat} {f C : Addr} {fd : FuncData} {sp : Sp}
/-- what a call's binding says at values -/
structure KGv (K : PySem.W.Frag) (fd : FuncData) (ps ks : List Str) (n : Nat) (ss : List Src) (df : List D) (dv : List V) : Prop where
  rep : ∀ C G ρ, Reps K C G ρ df dv
  to : ∃ du : List Value, Vals dv du ∧ ∀ (s : Shared) (us ws : List Value), K.In s.heap → us.length = n → ws.length = ks.length → BindsTo s fd ⟨us, ks.zip ws⟩ (ps.zip (us ++ selU ss du ws))
theorem KG.v {K : PySem.W.Frag} (h : KG K fd ps ks n ss df) : ∃ dv, KGv K fd ps ks n ss df dv := by
  obtain ⟨du, c, b⟩ := h
  obtain ⟨dv, r, k⟩ := c.rep
  exact ⟨dv, k, du, r, b⟩
/-- f(..) -/
def tCG (sp : Sp) (W : WX) (n m : Nat) (ss : List Src) (dv : List V) (t : TA2) : TE := fun σ H Q => t σ H fun vs zs H2 => vs.length = n ∧ zs.length = m ∧ sp (vs ++ selV ss dv zs) H2 Q (WE W σ)
theorem pe_cg (F : FnOk X.prog X.w X.K X.mg X.base (L2N.CX X.prog X.w) k f fd ps sp) (hx : Lets X W) (hr : Room k X.A) (hm : X.mg x = some (.ref f)) (hk : PySem.W.keepIn X.K (.ref f) = true) (hb : KGv X.K fd ps ks n ss df dv) (ha : CArgs X pos es kws ks t)
    (hg : Gl X x := by rfl) (hdb : (x == ("__debug__" : Str)) = false := by decide) : PE X (.Call (.Name x p) es kws pos) (tCG sp W n ks.length ss dv t) := by
  obtain ⟨du, rd, hb⟩ := hb.to
  refine ⟨fun pins s σ H Q I h => wpAny_Call_Name_kw (ld_glob I hg hm ?_ hdb)⟩
  refine ha (.ref f) [] pins s σ H _ _ hk I h fun us ws vs zs s2 H2 I2 r rz hh => ?_
  obtain ⟨l1, l2, q2⟩ := hh
  exact run_any (args := ⟨us, ks.zip ws⟩) F hr (hx σ) I2 (hb s2 us ws I2.kIn (by rw [← r.length]; exact l1) (by rw [← rz.length]; exact l2)) (r.append (sel_vals rd rz ss)) q2
/-- C(..) -/
def tMkG (C : Addr) (sp : Sp) (W : WX) (n m : Nat) (ss : List Src) (dv : List V) (t : TA2) : TE := fun σ H Q => t σ H fun vs zs H1 => vs.length = n ∧ zs.length = m ∧ ∀ x dx, H1 x = none → H1 dx = none → dx ≠ x →
  sp (.ref x :: (vs ++ selV ss dv zs)) (upd (upd H1 dx (.own x)) x (.ins C dx [])) (fun v H2 => v = .non ∧ Q (.ref x) H2) (WE W σ)
theorem pe_mkg (M : Mk X.K C f) (F : FnOk X.prog X.w X.K X.mg X.base (L2N.CX X.prog X.w) k f fd ps sp) (hx : Lets X W) (hr : Room (k + 1) X.A) (hm : X.mg x = some (.ref C)) (hb : KGv X.K fd ps ks (n + 1) ss df dv) (ha : CArgs X pos es kws ks t)
    (hg : Gl X x := by rfl) (hdb : (x == ("__debug__" : Str)) = false := by decide) : PE X (.Call (.Name x p) es kws pos) (tMkG C sp W n ks.length ss dv t) := by
  obtain ⟨du, rd, hb⟩ := hb.to
  refine ⟨fun pins s σ H Q I h => wpAny_Call_Name_kw (ld_glob I hg hm ?_ hdb)⟩
  refine ha (.ref C) [] pins s σ H _ _ M.kp I h fun us ws vs zs s2 H2 I2 r rz hh => ?_
  obtain ⟨l1, l2, q2⟩ := hh
  exact run_mk (us := us) (kw := ks.zip ws) M F hr hx I2 (r.append (sel_vals rd rz ss)) (fun a s' hk _ => hb s' (.ref a :: us) ws hk (by rw [List.length_cons, ← r.length, l1]) (by rw [← rz.length]; exact l2)) q2
/-- o.m(..) -/
def tMG (X : Cx) (W : WX) (m : Str) (ks : List Str) (n : Nat) (ss : List Src) (df : List D) (ta : TE) (t : TA2) : TE := fun σ H Q => ta σ H fun x H1 => ∃ (a C dx : Addr) (fs : List (Str × V)) (k : Nat) (f : Addr) (fd : FuncData) (ps : List Str) (sp : Sp) (dv : List V),
  x = .ref a ∧ H1 a = some (.ins C dx fs) ∧ Cls X.K C ∧ Meth X.K C m f ∧ fs.lookup m = none ∧ FnOk X.prog X.w X.K X.mg X.base (L2N.CX X.prog X.w) k f fd ps sp ∧ Room k X.A ∧ KGv X.K fd ps ks (n + 1) ss df dv ∧ t σ H1 fun vs zs H2 => vs.length = n ∧ zs.length = ks.length ∧ sp (x :: (vs ++ selV ss dv zs)) H2 Q (WE W σ)
theorem pe_mg {pl : Sem Bool} (hx : Lets X W) (he : PE X o ta) (ha : CArgs X pos es kws ks t)
    (ht : eval (.Call (.Attribute o m apos) es kws pos) X.env = (do
      let v ← eval o X.env
      standAt apos.atName
      let (fv, fst) ← holding [v] (getMethod v m pl)
      callWith pos fv fst (backTo pos (starEach es X.env)) (backToKw pos (keywordEach kws X.env))) := by rfl) :
    PE X (.Call (.Attribute o m apos) es kws pos) (tMG X W m ks n ss df ta t) := by
  refine ⟨fun pins s σ H Q I h => PySem.W.methodCall_KW (pl := pl) (thn (he.run pins s σ H _ I h) fun u s1 hh => ?_) ht⟩
  obtain ⟨_, H1, I1, rx, a, C, dx, fs, k, f, fd, ps, sp, dv, rfl, ea, c, hm, l, F, hr, hb, q⟩ := hh
  obtain ⟨du, rd, hb⟩ := hb.to
  obtain rfl : u = Value.ref a := rx
  refine getmeth_ok I1 ea c hm l ?_
  refine ha (.ref f) [.ref a] pins s1 σ H1 _ _ hm.kp I1 q fun us ws vs zs s2 H2 I2 r rz hh => ?_
  obtain ⟨l1, l2, q2⟩ := hh
  have r2 : Vals (V.ref a :: (vs ++ selV ss dv zs)) (Value.ref a :: (us ++ selU ss du ws)) := .cons rfl (r.append (sel_vals rd rz ss))
  exact run_any (args := ⟨.ref a :: us, ks.zip ws⟩) F hr (hx σ) I2 (hb s2 (.ref a :: us) ws I2.kIn (by rw [List.length_cons, ← r.length, l1]) (by rw [← rz.length]; exact l2)) r2 q2
end
section
variable {P : Program} {w : World} {K : PySem.W.Frag} {mg : Str → Option Value} {base : Heap}
variable (P w K mg base)
structure HasG (x : Str) (C : Cfg) (k : Nat) (lv fresh : Bool) (ps ks : List Str) (n : Nat) (ss : List Src) (df : List D) (F : Fn) : Prop where
  ex : ∃ (f : Addr) (fd : FuncData), mg x = some (.ref f) ∧ PySem.W.keepIn K (.ref f) = true ∧ KG K fd ps ks n ss df ∧ FnOk P w K mg base (L2N.CX P w) k f fd ps (spF K C lv fresh F)
structure HasCG (x : Str) (c : Nat) (C : Cfg) (k : Nat) (lv : Bool) (ps ks : List Str) (n : Nat) (ss : List Src) (df : List D) (F : Fn) : Prop where
  ex : ∃ (f : Addr) (fd : FuncData), mg x = some (.ref (C.ca c)) ∧ Mk K (C.ca c) f ∧ KG K fd ps ks n ss df ∧ FnOk P w K mg base (L2N.CX P w) k f fd ps (spF K C lv false F)
structure HasMG (c : Nat) (m : Str) (C : Cfg) (k : Nat) (lv fresh : Bool) (ps ks : List Str) (n : Nat) (ss : List Src) (df : List D) (F : Fn) : Prop where
  ex : ∃ (f : Addr) (fd : FuncData), MethAt K C c m f ∧ KG K fd ps ks n ss df ∧ FnOk P w K mg base (L2N.CX P w) k f fd ps (spF K C lv fresh F)
/-- a property -/
structure HasP (c : Nat) (m : Str) (C : Cfg) (k : Nat) (lv fresh : Bool) (F : Fn) : Prop where
  ex : ∃ (p f : Addr) (fd : FuncData), Cls K (C.ca c) ∧ PropOf K (C.ca c) m p f ∧ Binds K fd ["self"] [] ∧ FnOk P w K mg base (L2N.CX P w) k f fd ["self"] (spF K C lv fresh F)
end
section
variable {X : Cx} {J : Jd} {Γ : List Bool} {k j : Nat} {x m : Str} {p pos apos : Pos} {o : Expr} {es : List Expr} {kws : List Keyword} {ks ps : List Str} {ma mk : Mx (List D)} {mo : Mx D} {ss : List Src} {df : List D} {n : Nat} {lv fresh : Bool} {F : Fn}
theorem sd_cg (h : HasG X.prog X.w X.K X.mg X.base x J.C k lv false ps ks n ss df F) (hx : Lets X J.W) (hr : Room j X.A) (ha : CArgs X pos es kws ks (tArgs X.K J Γ ma mk))
    (hkj : k ≤ j := by first | decide | omega) (hlv : lv = true → J.lv = true := by first | exact fun h => h | exact fun _ => rfl | exact fun h => Bool.noConfusion h) (hg : Gl X x := by rfl) (hdb : (x == ("__debug__" : Str)) = false := by decide) : SD X J Γ (.Call (.Name x p) es kws pos) (mCall F (mSel n ks.length ss df ma mk)) := by
  obtain ⟨f, fd, hm, hk, hb, hF⟩ := h.ex
  obtain ⟨dv, hb⟩ := hb.v
  refine PE.imp (pe_cg (W := J.W) hF hx (hr.mono hkj) hm hk hb ha hg hdb) fun σ H Q q => ?_
  obtain ⟨g, sl, S, rl, p⟩ := tD_iff.mp q
  exact sel_post postD rl p fun g1 H1 us zs vs ws S1 st1 r1 b1 b2 l1 l2 p1 => ⟨by rw [← b1.length]; exact l1, by rw [← b2.length]; exact l2, spF_D hlv r1 (b1.append (sel_reps (hb.rep _ _ _) b2 ss)) p1⟩
theorem sn_cg (h : HasG X.prog X.w X.K X.mg X.base x J.C k lv true ps ks n ss df F) (hx : Lets X J.W) (hr : Room j X.A) (ha : CArgs X pos es kws ks (tArgs X.K J Γ ma mk))
    (hkj : k ≤ j := by first | decide | omega) (hlv : lv = true → J.lv = true := by first | exact fun h => h | exact fun _ => rfl | exact fun h => Bool.noConfusion h) (hg : Gl X x := by rfl) (hdb : (x == ("__debug__" : Str)) = false := by decide) : SN X J Γ (.Call (.Name x p) es kws pos) (mCall F (mSel n ks.length ss df ma mk)) := by
  obtain ⟨f, fd, hm, hk, hb, hF⟩ := h.ex
  obtain ⟨dv, hb⟩ := hb.v
  refine PE.imp (pe_cg (W := J.W) hF hx (hr.mono hkj) hm hk hb ha hg hdb) fun σ H Q q => ?_
  obtain ⟨g, sl, S, rl, p⟩ := tNw_iff.mp q
  exact sel_post postN rl p fun g1 H1 us zs vs ws S1 st1 r1 b1 b2 l1 l2 p1 => ⟨by rw [← b1.length]; exact l1, by rw [← b2.length]; exact l2, spF_N hlv r1 (b1.append (sel_reps (hb.rep _ _ _) b2 ss)) p1⟩
theorem sd_mg {c : Nat} {pl : Sem Bool} (h : HasMG X.prog X.w X.K X.mg X.base c m J.C k lv false ps ks (n + 1) ss df F) (hx : Lets X J.W) (hr : Room j X.A) (ho : SD X J Γ o mo) (ha : CArgs X pos es kws ks (tArgs X.K J Γ ma mk))
    (hkj : k ≤ j := by first | decide | omega) (hlv : lv = true → J.lv = true := by first | exact fun h => h | exact fun _ => rfl | exact fun h => Bool.noConfusion h)
    (ht : eval (.Call (.Attribute o m apos) es kws pos) X.env = (do
      let v ← eval o X.env
      standAt apos.atName
      let (fv, fst) ← holding [v] (getMethod v m pl)
      callWith pos fv fst (backTo pos (starEach es X.env)) (backToKw pos (keywordEach kws X.env))) := by rfl) : SD X J Γ (.Call (.Attribute o m apos) es kws pos) (mMeth [(c, F)] mo (mSel n ks.length ss df ma mk)) := by
  obtain ⟨f, fd, hc, hb, hF⟩ := h.ex
  obtain ⟨dv, hb⟩ := hb.v
  refine PE.imp (pe_mg (n := n) (ss := ss) (df := df) hx ho ha ht) fun σ H Q q => ?_
  obtain ⟨g, sl, S, rl, p⟩ := tD_iff.mp q
  refine chD postD rl p fun g1 H1 d S1 x st1 r1 b1 p1 => ?_
  obtain ⟨c', F', h1, h2, p2⟩ := mth_open (β := Unit) postD p1
  rw [List.lookup_cons] at h2
  split at h2
  · rename_i e
    cases h2
    rw [beq_iff_eq] at e
    subst e
    obtain ⟨a, dx, fs, rfl, ea, hno⟩ := obj_view r1.sto b1 h1
    refine ⟨a, _, dx, fs, k, f, fd, ps, _, dv, rfl, ea, hc.cls, hc.mt, hno _ hc.no, hF, hr.mono hkj, hb, ?_⟩
    exact sel_post postD r1 p2 fun g2 H2 us zs vs ws S2 st2 r2 b2 b3 l1 l2 p3 => ⟨by rw [← b2.length]; exact l1, by rw [← b3.length]; exact l2, spF_D hlv r2 (.cons (b1.step st2) (b2.append (sel_reps (hb.rep _ _ _) b3 ss))) p3⟩
  · cases h2
end
end Sm
set_option Elab.async false
set_option linter.all false
set_option maxRecDepth 100000
set_option maxHeartbeats 2000000
/-! Sim 23: objects made with keywords and defaults; properties read. -/
namespace Sm
open PySem PySem.Spec PyProof.Rows L2
section
variable {X : Cx} {J : Jd} {Γ : List Bool} {k j : Nat} {x m : Str} {p pos apos : Pos} {o : Expr} {es : List Expr} {kws : List Keyword} {ks ps : List Str} {ma mk : Mx (List D)} {mo : Mx D} {ss : List Src} {df : List D} {n : Nat} {lv fresh : Bool} {F : Fn}
theorem sd_mkg {c nf : Nat} (h : HasCG X.prog X.w X.K X.mg X.base x c J.C k lv ps ks (n + 1) ss df F) (hx : Lets X J.W) (hr : Room j X.A) (ha : CArgs X pos es kws ks (tArgs X.K J Γ ma mk)) (hkj : k + 1 ≤ j := by first | decide | omega) (hl : J.lv = true := by rfl) (hnf : nf = (J.C.fl c).length := by rfl)
    (hg : Gl X x := by rfl) (hdb : (x == ("__debug__" : Str)) = false := by decide) : SD X J Γ (.Call (.Name x p) es kws pos) (mMk c nf F (mSel n ks.length ss df ma mk)) := by
  obtain ⟨f, fd, hm, M, hb, hF⟩ := h.ex
  obtain ⟨dv, hb⟩ := hb.v
  refine PE.imp (pe_mkg (W := J.W) M hF hx (hr.mono hkj) hm hb ha hg hdb) fun σ H Q q => ?_
  obtain ⟨g, sl, S, rl, p⟩ := tD_iff.mp q
  exact sel_post postD rl p fun g1 H1 us zs vs ws S1 st1 r1 b1 b2 l1 l2 p1 => ⟨by rw [← b1.length]; exact l1, by rw [← b2.length]; exact l2, fun a dx e1 e2 ne => mk_spF hl hnf r1 (b1.append (sel_reps (hb.rep _ _ _) b2 ss)) p1 e1 e2 ne⟩
/-- o.m, a property of the class c -/
def mProp (c : Nat) (F : Fn) (mo : Mx D) : Mx D := bindX mo fun o sl S => match clsOf S o with
  | some c' => if c' = c then F [o] S else .stuck
  | none => .stuck
theorem prop_open {K : PySem.W.Frag} {β : Type} {P : Gh → Hp → Rx D → Prop} {σ : L2.St} {sl : List (Option D)} {g : Gh} {H : Hp} {S : Sto} {d : D} {c : Nat} (hP : Post K J Γ σ sl P)
    (p : P g H ((match clsOf S d with | some c' => if c' = c then F [d] S else .stuck | none => .stuck : Rx D))) : clsOf S d = some c ∧ P g H (F [d] S) := by
  cases e : clsOf S d with
  | none => rw [e] at p; exact (hP.stuck _ _ p).elim
  | some c' =>
    rw [e] at p
    by_cases z : c' = c
    · subst z
      simp only [if_true] at p
      exact ⟨rfl, p⟩
    · simp only [if_neg z] at p
      exact (hP.stuck _ _ p).elim
theorem lets_nox {W : WX} (hx : Lets X W) (σ : L2.St) : Passes (L2N.CX X.prog X.w) X.nox (WE W σ) → True := fun _ => trivial
end
end Sm
set_option Elab.async false
set_option linter.all false
set_option maxRecDepth 100000
set_option maxHeartbeats 2000000
/-! Sim 24: properties read; len(set(t)) of a tuple of ints. -/
namespace Sm
open PySem PySem.Spec PyProof.Rows L2
section
variable {X : Cx} {J : Jd} {Γ : List Bool} {k j : Nat} {x m : Str} {p pos apos : Pos} {o : Expr} {mo : Mx D} {lv fresh : Bool} {F : Fn}
/-- what a getter tells; it may not raise -/
def okOnly (r : Rx D) : Rx D := match r with
  | .ok d S => .ok d S
  | _ => .stuck
/-- o.m, a property of the class c -/
def mPrp (c : Nat) (F : Fn) (mo : Mx D) : Mx D := bindX mo fun o sl S => match clsOf S o with
  | some c' => if c' = c then okOnly (F [o] S) else .stuck
  | none => .stuck
def E0 : XK := fun _ _ _ => False
theorem passes0 : Passes (L2N.CX X.prog X.w) X.nox E0 := fun pins σ H s e s' I c => by
  obtain ⟨_, _, _, _, _, _, _, _, _, _, _, _, h⟩ := c
  exact h.elim
theorem prp_open {K : PySem.W.Frag} {P : Gh → Hp → Rx D → Prop} {σ : L2.St} {sl : List (Option D)} {g : Gh} {H : Hp} {S : Sto} {d : D} {c : Nat} (hP : Post K J Γ σ sl P)
    (p : P g H ((match clsOf S d with | some c' => if c' = c then okOnly (F [d] S) else .stuck | none => .stuck : Rx D))) : clsOf S d = some c ∧ ∃ z S', F [d] S = .ok z S' ∧ P g H (.ok z S') := by
  cases e : clsOf S d with
  | none => rw [e] at p; exact (hP.stuck _ _ p).elim
  | some c' =>
    rw [e] at p
    by_cases z : c' = c
    · subst z
      simp only [if_true] at p
      unfold okOnly at p
      split at p
      · exact ⟨rfl, _, _, by assumption, p⟩
      · exact (hP.stuck _ _ p).elim
    · simp only [if_neg z] at p
      exact (hP.stuck _ _ p).elim
theorem sd_prop {c : Nat} (h : HasP X.prog X.w X.K X.mg X.base c m J.C k lv false F) (hr : Room j X.A) (ho : SD X J Γ o mo) (hkj : k + 1 ≤ j := by first | decide | omega) (hlv : lv = true → J.lv = true := by first | exact fun h => h | exact fun _ => rfl | exact fun h => Bool.noConfusion h)
    (hab : attributeBase o m X.env (eval o X.env) = eval o X.env := by rfl) : SD X J Γ (.Attribute o m pos) (mPrp c F mo) := by
  obtain ⟨pa, ga, fd, hc, hp, hb, hF⟩ := h.ex
  refine PE.imp (pe_prop (E := E0) (dvs := []) (ds := []) ho hc hp hF (hr.mono hkj) hb .nil passes0 hab) fun σ H Q q => ?_
  obtain ⟨g, sl, S, rl, p⟩ := tD_iff.mp q
  refine chD postD rl p fun g1 H1 d S1 x st1 r1 b1 p1 => ?_
  obtain ⟨h1, z, S2, hz, p2⟩ := prp_open postD p1
  obtain ⟨a, dx, fs, rfl, ea, hno⟩ := obj_view r1.sto b1 h1
  refine ⟨a, dx, fs, rfl, ea, g1.drop, [d], S1, drop_no, drop_sto r1.sto, .cons b1 .nil, ?_⟩
  have w := PSp.weak hlv (call_D r1 p2)
  rw [hz]
  exact w
theorem sn_prop {c : Nat} (h : HasP X.prog X.w X.K X.mg X.base c m J.C k lv true F) (hr : Room j X.A) (ho : SD X J Γ o mo) (hkj : k + 1 ≤ j := by first | decide | omega) (hlv : lv = true → J.lv = true := by first | exact fun h => h | exact fun _ => rfl | exact fun h => Bool.noConfusion h)
    (hab : attributeBase o m X.env (eval o X.env) = eval o X.env := by rfl) : SN X J Γ (.Attribute o m pos) (mPrp c F mo) := by
  obtain ⟨pa, ga, fd, hc, hp, hb, hF⟩ := h.ex
  refine PE.imp (pe_prop (E := E0) (dvs := []) (ds := []) ho hc hp hF (hr.mono hkj) hb .nil passes0 hab) fun σ H Q q => ?_
  obtain ⟨g, sl, S, rl, p⟩ := tNw_iff.mp q
  refine chD postN rl p fun g1 H1 d S1 x st1 r1 b1 p1 => ?_
  obtain ⟨h1, z, S2, hz, p2⟩ := prp_open postN p1
  obtain ⟨a, dx, fs, rfl, ea, hno⟩ := obj_view r1.sto b1 h1
  refine ⟨a, dx, fs, rfl, ea, g1.drop, [d], S1, drop_no, drop_sto r1.sto, .cons b1 .nil, ?_⟩
  have w := PSp.weak hlv (call_N r1 p2)
  rw [hz]
  exact w
end
/-! ### len(set(t)) -/
def ddI : List Int → List Int
  | [] => []
  | x :: t => if x ∈ t then ddI t else x :: ddI t
theorem ddI_mem : ∀ {l : List Int} {k : Int}, k ∈ ddI l ↔ k ∈ l
  | [], k => Iff.rfl
  | x :: t, k => by
    unfold ddI
    split
    · rename_i h
      rw [ddI_mem, List.mem_cons]
      exact ⟨.inr, fun q => q.elim (fun e => e ▸ h) id⟩
    · rw [List.mem_cons, List.mem_cons, ddI_mem]
theorem ddI_nodup : ∀ {l : List Int}, (ddI l).Nodup
  | [] => List.nodup_nil
  | x :: t => by
    unfold ddI
    split
    · exact ddI_nodup
    · rename_i h
      exact List.nodup_cons.mpr ⟨fun q => h (ddI_mem.mp q), ddI_nodup⟩
theorem nodup_len {l m : List Int} (hl : l.Nodup) (hm : m.Nodup) (h : ∀ k, k ∈ l ↔ k ∈ m) : l.length = m.length :=
  ((List.perm_ext_iff_of_nodup hl hm).mpr fun k => h k).length_eq
def tLenSetT (K : PySem.W.Frag) (ta : TE) : TE := fun σ H Q => ta σ H fun x H1 => ∃ (l : Addr) (ns : List Int), x = V.ref l ∧ SqT K H1 l (ns.map V.int) ∧ ns.length < 64 ∧ Q (.int (ddI ns).length) H1
section
variable {X : Cx} {J : Jd} {Γ : List Bool}
theorem pe_lenSetT {a : Expr} {ta : TE} {p p2 q pos : Pos} (hc : X.calm = true) (hg : Gl X "len") (hm : X.mg "len" = none) (hg2 : Gl X "set") (hm2 : X.mg "set" = none) (ha : PE X a ta)
    (na : starEach [a] X.env = (false, eval a X.env) :: starEach [] X.env := by rfl) : PE X (.Call (.Name "len" p) [.Call (.Name "set" p2) [a] [] q] [] pos) (tLenSetT X.K ta) := by
  refine ⟨fun pins s σ H Q I h => ?_⟩
  refine Call_ (ld_blt I hg hm PySem.boot_len ?_)
  refine PyProof.Rows.callWith_builtin1 (PyProof.Rows.args_cons ?_ rfl) rfl rfl
  refine Call_ (ld_blt I hg2 hm2 PyProof.Rows.boot_set ?_)
  refine PyProof.Rows.callWith_type1 (PyProof.Rows.args_cons (thn (ha.run pins s σ H _ I h) fun v s1 ⟨x, H1, I1, r1, q1⟩ => PyProof.Rows.args_nil ?_) na) na rfl
  obtain ⟨l, ns, rfl, hq, h1, q1⟩ := q1
  cases r1
  obtain ⟨its, r, pt, hz⟩ := I1.tuple hq
  refine call_set_tupI ns (I1.ok.hd hc) (show s1.heap.IsTuple l its.toArray from pt) (by simpa using ints_of_vals r) (by unfold scanBound; omega) fun h' tk c R1 hcn hk => ?_
  refine PyProof.Rows.args_nil ?_
  obtain ⟨o, es, ep, t, ho, hex, hd, hg1, hnd, hS, hb, hf, hn, _⟩ := R1
  have hl : es.size = (ddI ns).length := by
    rw [← nodup_len hnd ddI_nodup fun k => by rw [← hS k, ddI_mem]; simp]
    simp
  have I2 : Inv X pins σ H1 { s1 with heap := h', toks := tk } := I1.kept fun b o e => hk b o e
  refine call_len_set ho hex hd hf (by rw [hn] <;> omega) ⟨.int (ddI ns).length, H1, I2.tok _, ⟨_, by rw [hl]⟩, q1⟩
def fLenSet : D → Option D
  | .tup xs => match toInts xs with
    | some ns => if ns.length < 64 then some (.int (ddI ns).length) else none
    | none => none
  | _ => none
theorem sd_lenSet {a : Expr} {ma : Mx D} {p p2 q pos : Pos} (hc : X.calm = true) (hm : X.mg "len" = none) (hm2 : X.mg "set" = none) (ha : SD X J Γ a ma) (hg : Gl X "len" := by rfl) (hg2 : Gl X "set" := by rfl)
    (na : starEach [a] X.env = (false, eval a X.env) :: starEach [] X.env := by rfl) : SD X J Γ (.Call (.Name "len" p) [.Call (.Name "set" p2) [a] [] q] [] pos) (mUn fLenSet ma) := by
  refine PE.imp (pe_lenSetT hc hg hm hg2 hm2 ha na) fun σ H Q q => ?_
  obtain ⟨g, sl, S, rl, p⟩ := tD_iff.mp q
  refine chD postD rl p fun g1 H1 d S1 x st1 r1 b1 p1 => ?_
  obtain ⟨z, hz, p3⟩ := ofO_of postD p1
  unfold fLenSet at hz
  split at hz
  · split at hz
    · rename_i ns hn
      split at hz
      · rename_i hl
        cases hz
        cases b1 with
        | tup s1 rr =>
          have s1 := sqT_mono r1.sub s1
          rw [reps_ints hn rr] at s1
          exact ⟨_, ns, rfl, s1, hl, PD.now p3 r1 (.int _)⟩
      · cases hz
    · cases hz
  · cases hz
end
/-! ### defs with defaults -/
section
variable {P : Program} {w : World} {K : PySem.W.Frag} {mg : Str → Option Value} {base : Heap} {x qual : Str} {st : Stmt} {dfs : List D} {kws : List (Str × D)} {f : Addr} {fd : FuncData} {ps ks : List Str} {ss : List Src} {n : Nat}
/-- keyword-only defaults are there, none is asked for -/
theorem FunX_kg (F : FunX K x qual st [] kws f fd)
    (h : ∀ (kV doc pm : Value) (an : Option Addr) (cdv ct : Value) (us ws : List Value), us.length = n → ws.length = ks.length → bindArgs (PySem.W.fnOf x qual (defArgs st) (defBody st) (defScope st) .none kV doc pm an cdv ct) ⟨us, ks.zip ws⟩ = pure (ps.zip (us ++ selU ss [] ws))) : KG K fd ps ks n ss [] := by
  obtain ⟨oc, od, dV, kV, doc, pm, an, cdv, ct, osl, rfl, lk, hcd, hD, hK⟩ := F.ex
  rcases hD with ⟨_, rfl⟩ | ⟨e, _⟩
  · exact ⟨[], .nil, fun s us ws _ h1 h2 => .of_eq (h kV doc pm an cdv ct us ws h1 h2)⟩
  · exact absurd rfl e
theorem kwC_n {D0 : Addr} : ∀ q ∈ ([] : List (Str × D)), ∃ u, PySem.W.nsIn K D0 q.1 = some (some u) ∧ Cst K q.2 u := fun q h => by cases h
theorem kwC_c {D0 : Addr} {y : Str} {d : D} {u : Value} {l : List (Str × D)} (e : PySem.W.nsIn K D0 y = some (some u)) (c : Cst K d u) (h : ∀ q ∈ l, ∃ u, PySem.W.nsIn K D0 q.1 = some (some u) ∧ Cst K q.2 u) : ∀ q ∈ (y, d) :: l, ∃ u, PySem.W.nsIn K D0 q.1 = some (some u) ∧ Cst K q.2 u := fun q hq => by
  rcases List.mem_cons.mp hq with rfl | hq
  · exact ⟨u, e, c⟩
  · exact h q hq
theorem funX_mk {oc : Value} {od : Option Addr} {dV kV doc pm : Value} {an : Option Addr} {cdv ct : Value} {osl : Array (Option Value)} (lk : K.lookup f = some ⟨oc, od, .func (PySem.W.fnOf x qual (defArgs st) (defBody st) (defScope st) dV kV doc pm an cdv ct), osl⟩) (hcd : PySem.W.codeIn K cdv qual = true) (hk : PySem.W.keepIn K (.ref f) = true)
    (hD : DflC K dV dfs) (hK : KwC K kV kws) : FunX K x qual st dfs kws f (PySem.W.fnOf x qual (defArgs st) (defBody st) (defScope st) dV kV doc pm an cdv ct) := ⟨⟨_, _, _, _, _, _, _, _, _, _, rfl, lk, hcd, hD, hK⟩, hk⟩
end
end Sm
set_option Elab.async false
set_option linter.all false
set_option maxRecDepth 100000
set_option maxHeartbeats 1000000
/-! Wq: more steps. -/
namespace Sm
open PySem
theorem b_ist {k : Bool} {P P' : Prop} (e : k = true) (h : P) : wB (.bl k) P P' := ⟨k, rfl, fun _ => h, fun z => by rw [e] at z; cases z⟩
theorem b_isf {k : Bool} {P P' : Prop} (e : k = false) (h : P') : wB (.bl k) P P' := ⟨k, rfl, fun z => (by rw [e] at z; cases z), fun _ => h⟩
section
variable {a b : Mx D} {ma mk : Mx (List D)} {sl sl' : Sl} {S S' : Sto} {Q : D → Sto → Prop} {QL : List D → Sto → Prop} {X : Exc → Sto → Prop} {N : Sl → Sto → Prop} {R : Rs → Prop} {mb : Ms} {t : Tg} {d e : D} {ds : List D} {P : Sl → Prop}
/-! loops over what is known, targets -/
theorem l_nil (h : N sl S) : wS (loopF t mb []) sl S N R := by unfold wS loopF; exact h
theorem l_cons (h : wO (t d sl) fun sl1 => wS mb sl1 S (fun sl2 S2 => wS (loopF t mb ds) sl2 S2 N R) (rL (fun sl2 S2 => wS (loopF t mb ds) sl2 S2 N R) N R)) : wS (loopF t mb (d :: ds)) sl S N R := by
  obtain ⟨sl1, e, h⟩ := h
  unfold wS at h ⊢
  unfold loopF
  simp only [e]
  cases z : mb sl1 S with
  | next sl2 S2 => rw [z] at h; exact h
  | cont sl2 S2 => rw [z] at h; exact h
  | brk sl2 S2 => rw [z] at h; exact h
  | ret d2 S2 => rw [z] at h; exact h
  | err x sl2 S2 => rw [z] at h; exact h
  | stuck => rw [z] at h; exact h
theorem o_tupT {ts : List Tg} (h : wO (setsT ts ds sl) P) : wO (tTupT ts (.tup ds) sl) P := h
theorem o_sets0 (h : P sl) : wO (setsT [] [] sl) P := ⟨sl, rfl, h⟩
theorem o_sets {ts : List Tg} (h : wO (t d sl) fun sl1 => wO (setsT ts ds sl1) P) : wO (setsT (t :: ts) (d :: ds) sl) P := by
  obtain ⟨sl1, e, sl2, e2, h⟩ := h
  exact ⟨sl2, by show (t d sl).bind _ = _; rw [e]; exact e2, h⟩
theorem w_seqA (h : wE a sl S (fun d S1 => wO (itA d) fun z => QL z S1) X) : wE (mSeqA a) sl S QL X := w_bind (w_imp h fun _ _ q => w_ofO q)
theorem o_itAl {xs : List D} {P : List D → Prop} (h : P xs) : wO (itA (.lst xs)) P := ⟨_, rfl, h⟩
theorem o_itAt {xs : List D} {P : List D → Prop} (h : P xs) : wO (itA (.tup xs)) P := ⟨_, rfl, h⟩
theorem o_itAs {x : Str} {P : List D → Prop} (h : P (signs x)) : wO (itA (.str x)) P := ⟨_, rfl, h⟩
theorem w_enum (h : wE a sl S (fun d S1 => wO (enumD d) fun z => QL z S1) X) : wE (mEnum a) sl S QL X := w_bind (w_imp h fun _ _ q => w_ofO q)
theorem o_enum {xs : List D} {P : List D → Prop} (h : P (xs.zipIdx.map fun p => .tup [.int (p.2 : Nat), p.1])) : wO (enumD (.lst xs)) P := ⟨_, rfl, h⟩
theorem w_zip (h : wE a sl S (fun d S1 => wE b sl S1 (fun e S2 => wO (zipD d e) fun z => QL z S2) X) X) : wE (mZip a b) sl S QL X := w_bind (w_imp h fun _ _ q => w_bind (w_imp q fun _ _ q => w_ofO q))
theorem o_zipl {xs ys : List D} {P : List D → Prop} (h : P ((xs.zip ys).map fun p => .tup [p.1, p.2])) : wO (zipD (.lst xs) (.lst ys)) P := ⟨_, rfl, h⟩
theorem o_zipt {xs ys : List D} {P : List D → Prop} (h : P ((xs.zip ys).map fun p => .tup [p.1, p.2])) : wO (zipD (.tup xs) (.tup ys)) P := ⟨_, rfl, h⟩
theorem w_idx (h : wE a sl S (fun o S1 => ∃ xs, o = .lst xs ∧ wE b sl S1 (fun y S2 => wO (fIndexL xs y) fun z => Q z S2) X) X) : wE (mIdx a b) sl S Q X := w_bind (w_imp h fun o S1 q => by
  obtain ⟨xs, rfl, q⟩ := q
  exact w_bind (w_imp q fun _ _ z => w_ofO z))
theorem ex_lst {xs : List D} {P : List D → Prop} (h : P xs) : ∃ t, D.lst xs = .lst t ∧ P t := ⟨xs, rfl, h⟩
theorem w_sel {n m : Nat} {ss : List Src} {df : List D} (h : wE ma sl S (fun us S1 => wE mk sl S1 (fun zs S2 => us.length = n ∧ zs.length = m ∧ QL (us ++ selD ss df zs) S2) X) X) : wE (mSel n m ss df ma mk) sl S QL X := w_bind (w_imp h fun us S1 q => w_bind (w_imp q fun zs S2 q => by
  rw [if_pos ⟨q.1, q.2.1⟩]
  exact w_pure q.2.2))
theorem w_iso {tb : List (Nat × Bool)} (h : wE a sl S (fun d S1 => ∃ c b, clsOf S1 d = some c ∧ tb.lookup c = some b ∧ Q (.bl b) S1) X) : wE (mIso tb a) sl S Q X := w_bind (w_imp h fun d S1 q => by
  obtain ⟨c, b, e1, e2, q⟩ := q
  unfold wE
  simp only [e1, e2]
  exact q)
theorem w_m0 {f : Str → Option D} (h : wE a sl S (fun o S1 => ∃ s, o = .str s ∧ wO (f s) fun z => Q z S1) X) : wE (mM0 f a) sl S Q X := w_bind (w_imp h fun o S1 q => by
  obtain ⟨s, rfl, q⟩ := q
  exact w_ofO q)
theorem w_lrg {k : List D → Option (List D)} (h : wE ma sl S (fun ds S1 => wO (k ds) fun z => Q (.lst z) S1) X) : wE (mLRg k ma) sl S Q X := w_bind (w_imp h fun _ _ q => w_ofO (by
  obtain ⟨z, e, q⟩ := q
  exact ⟨_, by rw [e]; rfl, q⟩))
theorem w_trg {k : List D → Option (List D)} (h : wE ma sl S (fun ds S1 => wO (k ds) fun z => Q (.tup z) S1) X) : wE (mTRg k ma) sl S Q X := w_bind (w_imp h fun _ _ q => w_ofO (by
  obtain ⟨z, e, q⟩ := q
  exact ⟨_, by rw [e]; rfl, q⟩))
theorem o_r1 {n : Int} {P : List D → Prop} (h1 : -1000 ≤ n) (h2 : n < 1000000) (h : P (rng 0 n.toNat)) : wO (kR1 [.int n]) P := ⟨_, by
  show (if _ then _ else _) = _
  rw [if_pos (by unfold okR; exact decide_eq_true ⟨by omega, by omega, by omega, by omega, by omega⟩), Int.sub_zero], h⟩
theorem o_r2 {m n : Int} {P : List D → Prop} (h1 : -1000 ≤ n) (h2 : n < 1000000) (h3 : -1000 ≤ m) (h4 : m < 1000000) (h : P (rng m (n - m).toNat)) : wO (kR2 [.int m, .int n]) P := ⟨_, by
  show (if _ then _ else _) = _
  rw [if_pos (by unfold okR; exact decide_eq_true ⟨by omega, by omega, by omega, by omega, by omega⟩)], h⟩
/-! try -/
def rT (cs : List Cl) (N : Sl → Sto → Prop) (R : Rs → Prop) : Rs → Prop
  | .err x sl S => wS (mHd cs x) sl S N R
  | r => R r
theorem s_try {cs : List Cl} (h : wS mb sl S N (rT cs N R)) : wS (mTry mb cs) sl S N R := by
  unfold wS at h ⊢
  unfold mTry
  cases q : mb sl S <;> simp only [q] at h ⊢ <;> first | exact h | (simp only [rT] at h; unfold wS at h; exact h)
theorem rt_ret {cs : List Cl} (h : R (.ret d S)) : rT cs N R (.ret d S) := h
theorem rt_err {cs : List Cl} {x : Exc} (h : wS (mHd cs x) sl S N R) : rT cs N R (.err x sl S) := h
def rU (oi : Option Nat) (R : Rs → Prop) : Rs → Prop
  | .ret d S => R (.ret d S)
  | .brk sl S => R (.brk (unset oi sl) S)
  | .cont sl S => R (.cont (unset oi sl) S)
  | _ => False
theorem ru_ret {oi : Option Nat} (h : R (.ret d S)) : rU oi R (.ret d S) := h
theorem h_yes {ok : List (Nat × Bool)} {oi : Option Nat} {mh : Exc → Ms} {cs : List Cl} {x : Exc} (e : ok.lookup x.c = some true) (hi : oi.all (fun i => decide (i < sl.length)) = true) (h : wS (mh x) (unset oi sl) S (fun sl1 S1 => N (unset oi sl1) S1) (rU oi R)) : wS (mHd (⟨ok, oi, mh⟩ :: cs) x) sl S N R := by
  unfold wS at h ⊢
  unfold mHd
  simp only [e, hi, if_true]
  cases q : mh x (unset oi sl) S <;> simp only [q, suEnd] at h ⊢ <;> first | exact h | (simp only [rU] at h)
theorem h_no {ok : List (Nat × Bool)} {oi : Option Nat} {mh : Exc → Ms} {cs : List Cl} {x : Exc} (e : ok.lookup x.c = some false) (h : wS (mHd cs x) sl S N R) : wS (mHd (⟨ok, oi, mh⟩ :: cs) x) sl S N R := by
  unfold wS at h ⊢
  unfold mHd
  simp only [e]
  exact h
theorem h_out {x : Exc} (h : R (.err x sl S)) : wS (mHd [] x) sl S N R := by unfold wS mHd; exact h
theorem w_xf {i k : Nat} {cs : List (Nat × Nat)} {x : Exc} (e1 : sl[i]? = some none) (e2 : cs.lookup x.c = some k) (e3 : x.fs[k]? = some d) (h : Q d S) : wE (mXf i cs x) sl S Q X := by
  unfold wE mXf
  simp only [e1, e2, e3]
  exact h
theorem w_isX {i : Nat} {tb : List (Nat × Bool)} {x : Exc} {k : Bool} (e1 : sl[i]? = some none) (e2 : tb.lookup x.c = some k) (h : Q (.bl k) S) : wE (mIsX i tb x) sl S Q X := by
  unfold wE mIsX
  simp only [e1, e2]
  exact h
/-! the store -/
theorem rd_at {i c k : Nat} {cs : List (Nat × Nat)} {fs : List (Option D)} (h : S[i]? = some ⟨c, fs⟩) (e : cs.lookup c = some k) (e2 : fs[k]? = some (some d)) : rdF cs (.ref i) S = some d := by
  unfold rdF
  simp only [h, e, e2]
  rfl
theorem cls_at {i c : Nat} {fs : List (Option D)} (h : S[i]? = some ⟨c, fs⟩) : clsOf S (.ref i) = some c := by
  show (S[i]?).map Ob.c = _
  rw [h]; rfl
theorem ap_get {o : Ob} : (S ++ [o])[S.length]? = some o := by simp
theorem ap_set {o o' : Ob} : (S ++ [o]).set S.length o' = S ++ [o'] := by simp
theorem o_wrA {c k : Nat} {fs : List (Option D)} {P : Sto → Prop} (h : P (S ++ [⟨c, fs.set k (some d)⟩])) : wO (wrF c k d (.ref S.length) (S ++ [⟨c, fs⟩])) P := ⟨_, by
  unfold wrF
  simp only [ap_get, if_true, ap_set], h⟩
theorem o_wr {c k i : Nat} {fs : List (Option D)} {P : Sto → Prop} (e : S[i]? = some ⟨c, fs⟩) (h : P (S.set i ⟨c, fs.set k (some d)⟩)) : wO (wrF c k d (.ref i) S) P := ⟨_, by
  unfold wrF
  simp only [e, if_true], h⟩
theorem o_rdA {c k : Nat} {cs : List (Nat × Nat)} {fs : List (Option D)} {P : D → Prop} (e : cs.lookup c = some k) (e2 : fs[k]? = some (some d)) (h : P d) : wO (rdF cs (.ref S.length) (S ++ [⟨c, fs⟩])) P := ⟨d, rd_at ap_get e e2, h⟩
/-! comprehensions -/
theorem os_map {α : Type} {f : α → D} : ∀ {os : List (Option D)} {P : Nat → α → Prop}, (∀ i o, os[i]? = some o → ∃ a, o = some (f a) ∧ P i a) → ∃ as : List α, as.length = os.length ∧ os.filterMap id = as.map f ∧ ∀ i a, as[i]? = some a → P i a
  | [], P, h => ⟨[], rfl, rfl, fun i a z => by simp at z⟩
  | o :: os, P, h => by
    obtain ⟨a, rfl, p⟩ := h 0 o rfl
    obtain ⟨as, h1, h2, h3⟩ := os_map (os := os) (P := fun i a => P (i + 1) a) fun i o e => h (i + 1) o (by simpa using e)
    refine ⟨a :: as, by simp [h1], by simp [h2], fun i b e => ?_⟩
    cases i with
    | zero => simp at e; subst e; exact p
    | succ i => exact h3 i b (by simpa using e)
/-- every item gives a thing of one form -/
theorem w_lcM {α : Type} {vs : List Nat} {src : Mx (List D)} (f : α → D) (P : Nat → α → Prop) (h : wE src sl S (fun (ds : List D) S1 => ds.length < 10000000 ∧ (∀ (i : Nat) (d : D), ds[i]? = some d → wO (t d (wipeD sl vs)) fun sl' => wE a sl' S1 (fun y S3 => S3 = S1 ∧ ∃ x, y = f x ∧ P i x) fun _ _ => False) ∧
    ∀ as : List α, as.length = ds.length → (∀ (i : Nat) (x : α), as[i]? = some x → P i x) → Q (.lst (as.map f)) S1) X) : wE (mLc src t mYes a vs) sl S Q X := by
  refine w_eq (m := mLc src t mYes a vs) (m' := bindX src fun ds => mLc (fun _ S => .ok (ds.zipIdx.map fun p => .tup [p.1, .int (p.2 : Nat)]) S) (fun d sl => match d with | .tup [x, _] => t x sl | _ => none) mYes a vs) ?_ (w_bind (w_imp h fun ds S1 hh => ?_))
  · unfold mLc bindX
    cases src sl S with
    | err x S1 => rfl
    | stuck => rfl
    | ok ds S1 =>
      simp only
      have key : ∀ (ds acc : List D) (k : Nat) (S1 : Sto), loopC t mYes a (wipeD sl vs) ds acc S1 = loopC (fun d sl => match d with | .tup [x, _] => t x sl | _ => none) mYes a (wipeD sl vs) ((ds.zipIdx k).map fun p => .tup [p.1, .int (p.2 : Nat)]) acc S1 := by
        intro ds
        induction ds with
        | nil => intro acc k S1; simp [loopC]
        | cons d ds ih =>
          intro acc k S1
          rw [List.zipIdx_cons, List.map_cons]
          unfold loopC
          simp only
          cases t d (wipeD sl vs) with
          | none => rfl
          | some sl' =>
            simp only
            cases mYes sl' S1 with
            | err x S2 => rfl
            | stuck => rfl
            | ok b S2 =>
              cases b with
              | false => exact ih acc (k + 1) S2
              | true =>
                simp only
                cases a sl' S2 with
                | err x S3 => rfl
                | stuck => rfl
                | ok y S3 =>
                  simp only
                  split
                  · exact ih _ (k + 1) S3
                  · rfl
      rw [key ds [] 0 S1]
  · obtain ⟨h1, h2, h3⟩ := hh
    refine w_lc (fun d o => ∃ (i : Nat) (x0 : D) (x : α), d = .tup [x0, .int i] ∧ o = some (f x) ∧ P i x) ?_
    refine w_pure (Q := fun (ds : List D) S1 => _ ∧ _) ⟨by simpa using h1, fun i d e => ?_, fun os ho hg => ?_⟩
    · rw [List.getElem?_map, List.getElem?_zipIdx] at e
      cases e0 : ds[i]? with
      | none => rw [e0] at e; cases e
      | some x0 =>
        rw [e0] at e
        cases e
        obtain ⟨sl', e1, w⟩ := h2 i x0 e0
        refine ⟨sl', e1, t_yes ⟨rfl, w_imp w fun y S3 hy => ?_⟩⟩
        obtain ⟨rfl, x, rfl, hp⟩ := hy
        exact ⟨rfl, i, x0, x, by simp, rfl, hp⟩
    · obtain ⟨as, l1, l2, l3⟩ := os_map (f := f) (P := P) (os := os) fun i o e => by
        have hi := (List.getElem?_eq_some_iff.mp e).1
        rw [ho] at hi
        obtain ⟨j, x0, x, e1, rfl, hp⟩ := hg i _ o (List.getElem?_eq_getElem hi) e
        simp at e1
        obtain ⟨_, e1⟩ := e1
        have : i = j := by omega
        subst this
        exact ⟨x, rfl, hp⟩
      rw [l2]
      exact h3 as (by rw [l1, ho]; simp) l3
end
/-! texts -/
theorem o_strI {i : Int} {P : D → Prop} (h0 : 0 ≤ i) (h1 : i < 1000000) (h : P (.str (toString i))) : wO (kStr [.int i]) P := ⟨_, by
  show (if _ then _ else _) = _
  have h3 : i.natAbs < 2 ^ 20 := by omega
  have h2 : i.natAbs.log2 < 1920 := by
    by_cases z : i.natAbs = 0
    · rw [z]; decide
    · have := (Nat.log2_lt (by omega)).mpr h3
      omega
  rw [if_pos h2], h⟩
theorem hasS_one (z : Str) (c : Nat) : hasS z ⟨#[c]⟩ = decide (c ∈ z.cps.toList) := PySem.StrLaws.found_one z c
theorem o_nis {z : Str} {c : Nat} {P : D → Prop} (h : P (.bl (!decide (c ∈ z.cps.toList)))) : wO (fNotIn (.str ⟨#[c]⟩) (.str z)) P := ⟨_, by show some (D.bl (!hasS z ⟨#[c]⟩)) = _; rw [hasS_one], h⟩
theorem o_ins {z : Str} {c : Nat} {P : D → Prop} (h : P (.bl (decide (c ∈ z.cps.toList)))) : wO (fIn (.str ⟨#[c]⟩) (.str z)) P := ⟨_, by show some (D.bl (hasS z ⟨#[c]⟩)) = _; rw [hasS_one], h⟩
theorem split_ne (x : Str) (c : Nat) : Txt.split x ⟨#[c]⟩ ≠ [] := fun h => by
  have := PySem.StrLaws.join_split x ⟨#[c]⟩
  unfold Txt.split at h
  split at h
  · cases h
  · split at h
    · cases h
    · rw [PySem.StrLaws.partsBetween_eq] at h
      obtain ⟨p, r, e⟩ := PySem.StrLaws.partsFrom_ne x (⟨#[c]⟩ : Str).length 0 (Builtin.Str.occurrences x ⟨#[c]⟩ 0 x.length (x.length + 1))
      rw [e] at h; cases h
/-- the weight of words: their lengths and their number -/
def wt (l : List Str) : Nat := (l.map (·.length)).sum + l.length
theorem wt_nil : wt [] = 0 := rfl
theorem wt_cons (x : Str) (l : List Str) : wt (x :: l) = x.length + 1 + wt l := by simp [wt]; omega
theorem wt_app (a b : List Str) : wt (a ++ b) = wt a + wt b := by simp [wt]; omega
theorem wt_take (l : List Str) : ∀ n, wt (l.take n) ≤ wt l := by
  induction l with
  | nil => intro n; simp [wt_nil]
  | cons x l ih => intro n; cases n with
    | zero => simp [wt_nil]
    | succ n => rw [List.take_succ_cons, wt_cons, wt_cons]; have := ih n; omega
theorem wt_drop (l : List Str) : ∀ n, wt (l.drop n) ≤ wt l := by
  induction l with
  | nil => intro n; simp [wt_nil]
  | cons x l ih => intro n; cases n with
    | zero => simp
    | succ n => rw [List.drop_succ_cons, wt_cons]; have := ih n; omega
theorem wt_set (l : List Str) (y : Str) : ∀ n, wt (l.set n y) ≤ wt l + y.length := by
  induction l with
  | nil => intro n; simp [wt_nil]
  | cons x l ih => intro n; cases n with
    | zero => rw [List.set_cons_zero, wt_cons, wt_cons]; omega
    | succ n => rw [List.set_cons_succ, wt_cons, wt_cons]; have := ih n; omega
theorem wt_mem {l : List Str} {x : Str} (h : x ∈ l) : x.length + 1 ≤ wt l := by
  induction l with
  | nil => cases h
  | cons y l ih =>
    rw [wt_cons]
    rcases List.mem_cons.mp h with rfl | h
    · omega
    · have := ih h; omega
theorem wt_len (l : List Str) : l.length ≤ wt l := by simp [wt]
theorem join_len1 (c : Nat) : ∀ (l : List Str), (Str.join ⟨#[c]⟩ l).length ≤ wt l ∧ (l ≠ [] → wt l = (Str.join ⟨#[c]⟩ l).length + 1)
  | [] => ⟨by simp [Str.join, wt, Str.length, Str.empty], fun h => absurd rfl h⟩
  | [x] => ⟨by show x.length ≤ _; simp [wt], fun _ => by show _ = x.length + 1; simp [wt]⟩
  | x :: y :: r => by
    have h := (join_len1 c (y :: r)).2 (by simp)
    have e : (Str.join ⟨#[c]⟩ (x :: y :: r)).length = x.length + 1 + (Str.join ⟨#[c]⟩ (y :: r)).length := by
      show (x ++ ⟨#[c]⟩ ++ Str.join ⟨#[c]⟩ (y :: r)).length = _
      rw [Str.length_append, Str.length_append]
      rfl
    refine ⟨?_, fun _ => ?_⟩
    · rw [e, wt_cons]; omega
    · rw [e, wt_cons]; omega
theorem wt_split (x : Str) (c : Nat) : wt (Txt.split x ⟨#[c]⟩) = x.length + 1 := by
  rw [(join_len1 c _).2 (split_ne x c), PySem.StrLaws.join_split]
theorem txt_join (s : Str) (l : List Str) : Txt.join s l = Str.join s l := PySem.StrLaws.glued_eq_join s l
theorem o_join {c : Nat} {l : List Str} {P : D → Prop} (hw : wt l ≤ 16777216) (h : P (.str (Str.join ⟨#[c]⟩ l))) : wO (fJoin ⟨#[c]⟩ (.lst (l.map D.str))) P := ⟨_, by
  show (toStrs (l.map D.str)).bind _ = _
  rw [strs_map, Option.bind_some]
  have : (l.map (·.length)).sum + l.length * (⟨#[c]⟩ : Str).length ≤ 16777216 := by
    show _ + l.length * 1 ≤ _
    unfold wt at hw; omega
  rw [if_pos this, txt_join], h⟩
theorem o_split {x : Str} {c : Nat} {P : D → Prop} (hl : x.length < 16777000) (h : P (.lst ((Txt.split x ⟨#[c]⟩).map D.str))) : wO (fSplit x (.str ⟨#[c]⟩)) P := ⟨_, by
  show (if ((⟨#[c]⟩ : Str).length == 0) = false ∧ x.length + 2 ≤ sizeLine then _ else _) = _
  rw [if_pos ⟨rfl, sz_le (by omega)⟩]; rfl, h⟩
theorem o_lenS {z : Str} {P : D → Prop} (hl : z.length ≤ 16777216) (h : P (.int z.length)) : wO (kLen [.str z]) P := ⟨_, by show (if _ then _ else _) = _; rw [if_pos (sz_le hl)], h⟩
theorem o_slS {z : Str} {lo hi : Option Int} {P : D → Prop} (hl : z.length ≤ 16777216) (h : P (.str (L2.cutS z lo hi))) : wO (fSl (.str z) lo hi) P := ⟨_, by show (if _ then _ else _) = _; rw [if_pos (sz_le hl)], h⟩
theorem str1 {x y : Nat} : ((⟨#[x]⟩ : Str) = ⟨#[y]⟩) ↔ x = y := by simp
theorem str_cases (w : Str) : w = ⟨w.cps.toList.toArray⟩ := by cases w; simp
end Sm
set_option Elab.async false
set_option linter.all false
set_option maxRecDepth 100000
set_option maxHeartbeats 1000000
/-! Wr: properties, set sizes, by continuations. -/
namespace Sm
open PySem
section
variable {a : Mx D} {sl : Sl} {S : Sto} {Q : D → Sto → Prop} {X : Exc → Sto → Prop}
theorem w_prp {c : Nat} {F : Fn} (h : wE a sl S (fun o S1 => clsOf S1 o = some c ∧ wF F [o] S1 Q fun _ _ => False) X) : wE (mPrp c F a) sl S Q X := w_bind (w_imp h fun o S1 q => by
  obtain ⟨q1, q2⟩ := q
  unfold wF at q2
  unfold wE
  simp only [q1, if_true]
  cases e : F [o] S1 with
  | ok d S' => rw [e] at q2; simp only [okOnly]; exact q2
  | err x S' => rw [e] at q2; exact q2.elim
  | stuck => rw [e] at q2; exact q2.elim)
theorem t_imp {m : Mx Bool} {Qt Qf Qt' Qf' : Sto → Prop} (h : wT m sl S Qt Qf X) (k1 : ∀ S', Qt S' → Qt' S') (k2 : ∀ S', Qf S' → Qf' S') : wT m sl S Qt' Qf' X := by
  unfold wT at *
  cases q : m sl S with
  | ok x S1 => cases x <;> simp only [q] at h ⊢ <;> first | exact k1 _ h | exact k2 _ h
  | err x S1 => rw [q] at h; exact h
  | stuck => rw [q] at h; exact h
theorem fm_if {α β : Type} {c : α → Bool} {e : α → β} : ∀ xs : List α, (xs.map fun x => if c x = true then some (e x) else none).filterMap id = (xs.filter c).map e
  | [] => rfl
  | x :: t => by
    rw [List.map_cons, List.filter_cons]
    cases h : c x
    · simp only [Bool.false_eq_true, if_false]
      rw [List.filterMap_cons]
      exact fm_if t
    · simp only [if_true]
      rw [List.filterMap_cons, List.map_cons]
      show e x :: _ = _
      rw [fm_if t]
theorem w_lcF {α : Type} {f : α → D} {t : Tg} {vs : List Nat} {src : Mx (List D)} {ta : Mx Bool} (xs : List α) (c : α → Bool) (e : α → D) (hf : ∀ x y, f x = f y → x = y)
    (h : wE src sl S (fun (ds : List D) S1 => ds = xs.map f ∧ xs.length < 10000000 ∧ (∀ (i : Nat) (x : α), xs[i]? = some x → wO (t (f x) (wipeD sl vs)) fun sl' => wT ta sl' S1 (fun S2 => S2 = S1 ∧ wE a sl' S1 (fun y S3 => S3 = S1 ∧ c x = true ∧ y = e x) fun _ _ => False) (fun S2 => S2 = S1 ∧ c x = false) fun _ _ => False) ∧
      Q (.lst ((xs.filter c).map e)) S1) X) : wE (mLc src t ta a vs) sl S Q X := by
  refine w_lc (fun d o => ∃ x, d = f x ∧ o = if c x = true then some (e x) else none) (w_imp h fun ds S1 ⟨h1, h2, h3, h4⟩ => ?_)
  subst h1
  refine ⟨by rw [List.length_map]; exact h2, fun i d hd => ?_, fun os hl hos => ?_⟩
  · obtain ⟨x, hx, rfl⟩ : ∃ x, xs[i]? = some x ∧ f x = d := by simpa using hd
    obtain ⟨sl', q1, q2⟩ := h3 i x hx
    refine ⟨sl', q1, t_imp q2 (fun S2 ⟨e1, e2⟩ => ⟨e1, w_imp e2 fun y S3 ⟨a1, a2, a3⟩ => ⟨a1, x, rfl, by rw [if_pos a2, a3]⟩⟩) (fun S2 ⟨e1, e2⟩ => ⟨e1, x, rfl, by rw [e2]; rfl⟩)⟩
  · have : os = xs.map fun x => if c x = true then some (e x) else none := by
      rw [List.length_map] at hl
      refine List.ext_getElem (by rw [List.length_map, hl]) fun i h1 h2 => ?_
      have hx : i < xs.length := by omega
      obtain ⟨y, e1, e2⟩ := hos i (f xs[i]) os[i] (by simp [hx]) (List.getElem?_eq_getElem h1)
      have := hf _ _ e1
      subst this
      simpa using e2
    rw [this, fm_if]
    exact h4
end
end Sm
set_option Elab.async false
set_option linter.all false
set_option maxRecDepth 100000
set_option maxHeartbeats 4000000
namespace K27
open PySem PySem.Spec PyProof.Rows L2 Sm
def top (i : Nat) : Stmt := PySem.Challenge.pw_beadmoot_k27_game_doors.main.body.getD i (.Pass ⟨0, 0, 0, 0⟩)
abbrev s__law_mixed : Stmt := top 21
abbrev s__law_draws : Stmt := top 22
abbrev s__law_cell : Stmt := top 20
abbrev s__law_kinds : Stmt := top 23
abbrev s__law_base : Stmt := top 24
abbrev s_Strand_init : Stmt := inClass (top 12) 2
abbrev s_Row_init : Stmt := inClass (top 16) 0
abbrev s_Game_init : Stmt := inClass (top 18) 0
abbrev s__law_game : Stmt := top 28
abbrev s__law_mark : Stmt := top 25
abbrev s__law_mark_at : Stmt := top 29
abbrev s__law_allowed : Stmt := top 30
abbrev s__law_bad : Stmt := top 32
abbrev s__law_is_integer : Stmt := top 26
abbrev s__law_same : Stmt := top 27
abbrev s_Row_put_back : Stmt := inClass (top 16) 16
abbrev s_Row_undo : Stmt := inClass (top 16) 17
abbrev s_Game_undo : Stmt := inClass (top 18) 6
abbrev s__law_undo : Stmt := top 34
abbrev s__law_is_undone : Stmt := top 35
abbrev s_Row_standing : Stmt := inClass (top 16) 1
abbrev s_Game_standing : Stmt := inClass (top 18) 2
abbrev s_Row_check_standing : Stmt := inClass (top 16) 5
abbrev s_Row_check_inner : Stmt := inClass (top 16) 6
abbrev s_Row_neighbours : Stmt := inClass (top 16) 7
abbrev s_mark_of : Stmt := top 14
abbrev s_Row_mark : Stmt := inClass (top 16) 8
abbrev s_Game_moves : Stmt := inClass (top 18) 3
abbrev s_Row_taken : Stmt := inClass (top 16) 2
abbrev s_Game_turn : Stmt := inClass (top 18) 1
abbrev s_Game_is_over : Stmt := inClass (top 18) 4
abbrev s__law_is_told : Stmt := top 31
abbrev s__law_all_undone : Stmt := top 36
abbrev s_Row_take_out : Stmt := inClass (top 16) 9
abbrev s_Row_take : Stmt := inClass (top 16) 10
abbrev s_Game_move : Stmt := inClass (top 18) 5
abbrev s__law_move : Stmt := top 33
abbrev s__law_apart : Stmt := top 37
abbrev s_law : Stmt := top 38
def fl0 : Nat → List Str
  | 49 => ["kinds", "size", "unlike_pairs", "ends_unlike", "variety"]
  | 52 => ["_kinds", "_standing", "_taken", "_marks", "_meetings", "_deeds"]
  | 56 => ["_row", "_stuck_loses"]
  | _ => []
def ow0 : Nat → Nat → Bool
  | 52, 5 => true
  | 52, 3 => true
  | 52, 4 => true
  | 52, 2 => true
  | _, _ => false
def xl0 : Nat → List Str
  | 1 => ["at"]
  | 2 => ["kind"]
  | 5 => ["bead"]
  | 6 => ["bead"]
  | 7 => ["bead"]
  | 38 => ["bead"]
  | _ => []
abbrev cfg (A : Nat → Addr) : Cfg := ⟨A, fl0, ow0, xl0, none⟩
theorem in_at : In1 "at" := ⟨by decide, by decide, by rfl, by rfl, by rfl, fun _ _ _ _ _ _ => rfl, fun _ _ _ _ _ _ _ _ _ _ _ _ _ _ _ _ => rfl⟩
theorem in_bead : In1 "bead" := ⟨by decide, by decide, by rfl, by rfl, by rfl, fun _ _ _ _ _ _ => rfl, fun _ _ _ _ _ _ _ _ _ _ _ _ _ _ _ _ => rfl⟩
structure Tx (P : Program) (K : PySem.W.Frag) (mg : Str → Option Value) (A : Nat → Addr) : Prop where
  c_MootError : mg "MootError" = some (.ref (A 0))
  c_BadStrand : mg "BadStrand" = some (.ref (A 1))
  c_BadKind : mg "BadKind" = some (.ref (A 2))
  c_NoSuchBead : mg "NoSuchBead" = some (.ref (A 5))
  c_GoneBead : mg "GoneBead" = some (.ref (A 6))
  c_EndBead : mg "EndBead" = some (.ref (A 7))
  c_RowFull : mg "RowFull" = some (.ref (A 9))
  c_NothingToUndo : mg "NothingToUndo" = some (.ref (A 10))
  c_QuietMove : mg "QuietMove" = some (.ref (A 38))
  c_Strand : mg "Strand" = some (.ref (A 49))
  c_Row : mg "Row" = some (.ref (A 52))
  c_Game : mg "Game" = some (.ref (A 56))
  cl_49 : Cls K (A 49)
  mk_49 : PySem.W.makesIn K (A 49) = true
  kp_49 : PySem.W.keepIn K (.ref (A 49)) = true
  na_49_0 : NoAttr K (A 49) "kinds"
  na_49_1 : NoAttr K (A 49) "size"
  na_49_2 : NoAttr K (A 49) "unlike_pairs"
  na_49_3 : NoAttr K (A 49) "ends_unlike"
  na_49_4 : NoAttr K (A 49) "variety"
  m_49_init : ∃ (f : Addr) (fd : FuncData), Fun K "__init__" "Strand.__init__" s_Strand_init f fd ∧ PySem.W.findIn K (.ref (A 49)) "__init__" = some (some (.ref f)) ∧ PySem.W.isFn K (.ref f) = true
  cl_52 : Cls K (A 52)
  mk_52 : PySem.W.makesIn K (A 52) = true
  kp_52 : PySem.W.keepIn K (.ref (A 52)) = true
  na_52_0 : NoAttr K (A 52) "_kinds"
  na_52_1 : NoAttr K (A 52) "_standing"
  na_52_2 : NoAttr K (A 52) "_taken"
  na_52_3 : NoAttr K (A 52) "_marks"
  na_52_4 : NoAttr K (A 52) "_meetings"
  na_52_5 : NoAttr K (A 52) "_deeds"
  m_52_init : ∃ (f : Addr) (fd : FuncData), Fun K "__init__" "Row.__init__" s_Row_init f fd ∧ PySem.W.findIn K (.ref (A 52)) "__init__" = some (some (.ref f)) ∧ PySem.W.isFn K (.ref f) = true
  m_52_standing : ∃ (p f : Addr) (fd : FuncData), Fun K "standing" "Row.standing" s_Row_standing f fd ∧ PropOf K (A 52) "standing" p f
  m_52_taken : ∃ (p f : Addr) (fd : FuncData), Fun K "taken" "Row.taken" s_Row_taken f fd ∧ PropOf K (A 52) "taken" p f
  m_52__check_standing : ∃ (f : Addr) (fd : FuncData), Fun K "_check_standing" "Row._check_standing" s_Row_check_standing f fd ∧ Meth K (A 52) "_check_standing" f
  m_52__check_inner : ∃ (f : Addr) (fd : FuncData), Fun K "_check_inner" "Row._check_inner" s_Row_check_inner f fd ∧ Meth K (A 52) "_check_inner" f
  m_52_neighbours : ∃ (f : Addr) (fd : FuncData), Fun K "neighbours" "Row.neighbours" s_Row_neighbours f fd ∧ Meth K (A 52) "neighbours" f
  m_52_mark : ∃ (f : Addr) (fd : FuncData), Fun K "mark" "Row.mark" s_Row_mark f fd ∧ Meth K (A 52) "mark" f
  m_52__take_out : ∃ (f : Addr) (fd : FuncData), Fun K "_take_out" "Row._take_out" s_Row_take_out f fd ∧ Meth K (A 52) "_take_out" f
  m_52_take : ∃ (f : Addr) (fd : FuncData), Fun K "take" "Row.take" s_Row_take f fd ∧ Meth K (A 52) "take" f
  m_52__put_back : ∃ (f : Addr) (fd : FuncData), Fun K "_put_back" "Row._put_back" s_Row_put_back f fd ∧ Meth K (A 52) "_put_back" f
  m_52_undo : ∃ (f : Addr) (fd : FuncData), Fun K "undo" "Row.undo" s_Row_undo f fd ∧ Meth K (A 52) "undo" f
  cl_56 : Cls K (A 56)
  mk_56 : PySem.W.makesIn K (A 56) = true
  kp_56 : PySem.W.keepIn K (.ref (A 56)) = true
  na_56_0 : NoAttr K (A 56) "_row"
  na_56_1 : NoAttr K (A 56) "_stuck_loses"
  m_56_init : ∃ (f : Addr) (fd : FuncData), FunX K "__init__" "Game.__init__" s_Game_init [] [("stuck_loses", (.bl true))] f fd ∧ PySem.W.findIn K (.ref (A 56)) "__init__" = some (some (.ref f)) ∧ PySem.W.isFn K (.ref f) = true
  m_56_turn : ∃ (p f : Addr) (fd : FuncData), Fun K "turn" "Game.turn" s_Game_turn f fd ∧ PropOf K (A 56) "turn" p f
  m_56_standing : ∃ (p f : Addr) (fd : FuncData), Fun K "standing" "Game.standing" s_Game_standing f fd ∧ PropOf K (A 56) "standing" p f
  m_56_moves : ∃ (f : Addr) (fd : FuncData), Fun K "moves" "Game.moves" s_Game_moves f fd ∧ Meth K (A 56) "moves" f
  m_56_is_over : ∃ (f : Addr) (fd : FuncData), Fun K "is_over" "Game.is_over" s_Game_is_over f fd ∧ Meth K (A 56) "is_over" f
  m_56_move : ∃ (f : Addr) (fd : FuncData), Fun K "move" "Game.move" s_Game_move f fd ∧ Meth K (A 56) "move" f
  m_56_undo : ∃ (f : Addr) (fd : FuncData), Fun K "undo" "Game.undo" s_Game_undo f fd ∧ Meth K (A 56) "undo" f
  f__law_mixed : ∃ (f : Addr) (fd : FuncData), Fun K "_law_mixed" "_law_mixed" s__law_mixed f fd ∧ mg "_law_mixed" = some (.ref f)
  f__law_draws : ∃ (f : Addr) (fd : FuncData), Fun K "_law_draws" "_law_draws" s__law_draws f fd ∧ mg "_law_draws" = some (.ref f)
  f__law_cell : ∃ (f : Addr) (fd : FuncData), Fun K "_law_cell" "_law_cell" s__law_cell f fd ∧ mg "_law_cell" = some (.ref f)
  f__law_kinds : ∃ (f : Addr) (fd : FuncData), Fun K "_law_kinds" "_law_kinds" s__law_kinds f fd ∧ mg "_law_kinds" = some (.ref f)
  f__law_base : ∃ (f : Addr) (fd : FuncData), Fun K "_law_base" "_law_base" s__law_base f fd ∧ mg "_law_base" = some (.ref f)
  f__law_game : ∃ (f : Addr) (fd : FuncData), Fun K "_law_game" "_law_game" s__law_game f fd ∧ mg "_law_game" = some (.ref f)
  f__law_mark : ∃ (f : Addr) (fd : FuncData), Fun K "_law_mark" "_law_mark" s__law_mark f fd ∧ mg "_law_mark" = some (.ref f)
  f__law_mark_at : ∃ (f : Addr) (fd : FuncData), Fun K "_law_mark_at" "_law_mark_at" s__law_mark_at f fd ∧ mg "_law_mark_at" = some (.ref f)
  f__law_allowed : ∃ (f : Addr) (fd : FuncData), Fun K "_law_allowed" "_law_allowed" s__law_allowed f fd ∧ mg "_law_allowed" = some (.ref f)
  f__law_bad : ∃ (f : Addr) (fd : FuncData), Fun K "_law_bad" "_law_bad" s__law_bad f fd ∧ mg "_law_bad" = some (.ref f)
  f__law_is_integer : ∃ (f : Addr) (fd : FuncData), Fun K "_law_is_integer" "_law_is_integer" s__law_is_integer f fd ∧ mg "_law_is_integer" = some (.ref f)
  f__law_same : ∃ (f : Addr) (fd : FuncData), Fun K "_law_same" "_law_same" s__law_same f fd ∧ mg "_law_same" = some (.ref f)
  f__law_undo : ∃ (f : Addr) (fd : FuncData), Fun K "_law_undo" "_law_undo" s__law_undo f fd ∧ mg "_law_undo" = some (.ref f)
  f__law_is_undone : ∃ (f : Addr) (fd : FuncData), Fun K "_law_is_undone" "_law_is_undone" s__law_is_undone f fd ∧ mg "_law_is_undone" = some (.ref f)
  f_mark_of : ∃ (f : Addr) (fd : FuncData), Fun K "mark_of" "mark_of" s_mark_of f fd ∧ mg "mark_of" = some (.ref f)
  f__law_is_told : ∃ (f : Addr) (fd : FuncData), Fun K "_law_is_told" "_law_is_told" s__law_is_told f fd ∧ mg "_law_is_told" = some (.ref f)
  f__law_all_undone : ∃ (f : Addr) (fd : FuncData), Fun K "_law_all_undone" "_law_all_undone" s__law_all_undone f fd ∧ mg "_law_all_undone" = some (.ref f)
  f__law_move : ∃ (f : Addr) (fd : FuncData), Fun K "_law_move" "_law_move" s__law_move f fd ∧ mg "_law_move" = some (.ref f)
  f__law_apart : ∃ (f : Addr) (fd : FuncData), Fun K "_law_apart" "_law_apart" s__law_apart f fd ∧ mg "_law_apart" = some (.ref f)
  f_law : ∃ (f : Addr) (fd : FuncData), Fun K "law" "law" s_law f fd ∧ mg "law" = some (.ref f)
  b_ValueError : mg "ValueError" = none
  b_bool : mg "bool" = none
  b_int : mg "int" = none
  b_isinstance : mg "isinstance" = none
  b_len : mg "len" = none
  b_list : mg "list" = none
  b_range : mg "range" = none
  b_set : mg "set" = none
  b_sorted : mg "sorted" = none
  b_str : mg "str" = none
  b_tuple : mg "tuple" = none
  ty_0 : PySem.W.typeIn K (.ref (A 0)) = some (.type "type")
  ec_0 : ExcC K (A 0)
  kx_1 : PySem.W.keepIn K (.ref (A 1)) = true
  rx_1 : PySem.W.subIn K (.ref (A 1)) (.type "BaseException") = some true
  es_1 : PySem.EsX.EsT P K mg (A 1) ["at"]
  ty_1 : PySem.W.typeIn K (.ref (A 1)) = some (.type "type")
  ec_1 : ExcC K (A 1)
  ty_2 : PySem.W.typeIn K (.ref (A 2)) = some (.type "type")
  ec_2 : ExcC K (A 2)
  kx_5 : PySem.W.keepIn K (.ref (A 5)) = true
  rx_5 : PySem.W.subIn K (.ref (A 5)) (.type "BaseException") = some true
  es_5 : PySem.EsX.EsT P K mg (A 5) ["bead"]
  ty_5 : PySem.W.typeIn K (.ref (A 5)) = some (.type "type")
  ec_5 : ExcC K (A 5)
  xf_5 : XfC K (A 5)
  nf_5_bead : PySem.W.findIn K (.ref (A 5)) "bead" = some none
  kx_6 : PySem.W.keepIn K (.ref (A 6)) = true
  rx_6 : PySem.W.subIn K (.ref (A 6)) (.type "BaseException") = some true
  es_6 : PySem.EsX.EsT P K mg (A 6) ["bead"]
  ty_6 : PySem.W.typeIn K (.ref (A 6)) = some (.type "type")
  ec_6 : ExcC K (A 6)
  xf_6 : XfC K (A 6)
  nf_6_bead : PySem.W.findIn K (.ref (A 6)) "bead" = some none
  kx_7 : PySem.W.keepIn K (.ref (A 7)) = true
  rx_7 : PySem.W.subIn K (.ref (A 7)) (.type "BaseException") = some true
  es_7 : PySem.EsX.EsT P K mg (A 7) ["bead"]
  ty_7 : PySem.W.typeIn K (.ref (A 7)) = some (.type "type")
  ec_7 : ExcC K (A 7)
  xf_7 : XfC K (A 7)
  nf_7_bead : PySem.W.findIn K (.ref (A 7)) "bead" = some none
  ty_9 : PySem.W.typeIn K (.ref (A 9)) = some (.type "type")
  ec_9 : ExcC K (A 9)
  kx_10 : PySem.W.keepIn K (.ref (A 10)) = true
  rx_10 : PySem.W.subIn K (.ref (A 10)) (.type "BaseException") = some true
  ei_10 : PySem.W.excIn K (A 10) [.type "ValueError", .type "Exception", .type "BaseException", .type "object"] "ValueError.__new__" = true
  ty_10 : PySem.W.typeIn K (.ref (A 10)) = some (.type "type")
  ec_10 : ExcC K (A 10)
  kx_38 : PySem.W.keepIn K (.ref (A 38)) = true
  rx_38 : PySem.W.subIn K (.ref (A 38)) (.type "BaseException") = some true
  es_38 : PySem.EsX.EsT P K mg (A 38) ["bead"]
  ty_38 : PySem.W.typeIn K (.ref (A 38)) = some (.type "type")
  ec_38 : ExcC K (A 38)
  xf_38 : XfC K (A 38)
  nf_38_bead : PySem.W.findIn K (.ref (A 38)) "bead" = some none
  sb_0_5 : PySem.W.subIn K (.ref (A 0)) (.ref (A 5)) = some false
  sb_0_6 : PySem.W.subIn K (.ref (A 0)) (.ref (A 6)) = some false
  sb_0_7 : PySem.W.subIn K (.ref (A 0)) (.ref (A 7)) = some false
  sb_0_10 : PySem.W.subIn K (.ref (A 0)) (.ref (A 10)) = some false
  sb_0_38 : PySem.W.subIn K (.ref (A 0)) (.ref (A 38)) = some false
  sb_1_5 : PySem.W.subIn K (.ref (A 1)) (.ref (A 5)) = some false
  sb_1_6 : PySem.W.subIn K (.ref (A 1)) (.ref (A 6)) = some false
  sb_1_7 : PySem.W.subIn K (.ref (A 1)) (.ref (A 7)) = some false
  sb_1_10 : PySem.W.subIn K (.ref (A 1)) (.ref (A 10)) = some false
  sb_1_38 : PySem.W.subIn K (.ref (A 1)) (.ref (A 38)) = some false
  sb_2_5 : PySem.W.subIn K (.ref (A 2)) (.ref (A 5)) = some false
  sb_2_6 : PySem.W.subIn K (.ref (A 2)) (.ref (A 6)) = some false
  sb_2_7 : PySem.W.subIn K (.ref (A 2)) (.ref (A 7)) = some false
  sb_2_10 : PySem.W.subIn K (.ref (A 2)) (.ref (A 10)) = some false
  sb_2_38 : PySem.W.subIn K (.ref (A 2)) (.ref (A 38)) = some false
  sb_5_5 : PySem.W.subIn K (.ref (A 5)) (.ref (A 5)) = some true
  sb_5_6 : PySem.W.subIn K (.ref (A 5)) (.ref (A 6)) = some false
  sb_5_7 : PySem.W.subIn K (.ref (A 5)) (.ref (A 7)) = some false
  sb_5_10 : PySem.W.subIn K (.ref (A 5)) (.ref (A 10)) = some false
  sb_5_38 : PySem.W.subIn K (.ref (A 5)) (.ref (A 38)) = some false
  sb_6_5 : PySem.W.subIn K (.ref (A 6)) (.ref (A 5)) = some false
  sb_6_6 : PySem.W.subIn K (.ref (A 6)) (.ref (A 6)) = some true
  sb_6_7 : PySem.W.subIn K (.ref (A 6)) (.ref (A 7)) = some false
  sb_6_10 : PySem.W.subIn K (.ref (A 6)) (.ref (A 10)) = some false
  sb_6_38 : PySem.W.subIn K (.ref (A 6)) (.ref (A 38)) = some false
  sb_7_5 : PySem.W.subIn K (.ref (A 7)) (.ref (A 5)) = some false
  sb_7_6 : PySem.W.subIn K (.ref (A 7)) (.ref (A 6)) = some false
  sb_7_7 : PySem.W.subIn K (.ref (A 7)) (.ref (A 7)) = some true
  sb_7_10 : PySem.W.subIn K (.ref (A 7)) (.ref (A 10)) = some false
  sb_7_38 : PySem.W.subIn K (.ref (A 7)) (.ref (A 38)) = some false
  sb_9_5 : PySem.W.subIn K (.ref (A 9)) (.ref (A 5)) = some false
  sb_9_6 : PySem.W.subIn K (.ref (A 9)) (.ref (A 6)) = some false
  sb_9_7 : PySem.W.subIn K (.ref (A 9)) (.ref (A 7)) = some false
  sb_9_10 : PySem.W.subIn K (.ref (A 9)) (.ref (A 10)) = some false
  sb_9_38 : PySem.W.subIn K (.ref (A 9)) (.ref (A 38)) = some false
  sb_10_5 : PySem.W.subIn K (.ref (A 10)) (.ref (A 5)) = some false
  sb_10_6 : PySem.W.subIn K (.ref (A 10)) (.ref (A 6)) = some false
  sb_10_7 : PySem.W.subIn K (.ref (A 10)) (.ref (A 7)) = some false
  sb_10_10 : PySem.W.subIn K (.ref (A 10)) (.ref (A 10)) = some true
  sb_10_38 : PySem.W.subIn K (.ref (A 10)) (.ref (A 38)) = some false
  sb_38_5 : PySem.W.subIn K (.ref (A 38)) (.ref (A 5)) = some false
  sb_38_6 : PySem.W.subIn K (.ref (A 38)) (.ref (A 6)) = some false
  sb_38_7 : PySem.W.subIn K (.ref (A 38)) (.ref (A 7)) = some false
  sb_38_10 : PySem.W.subIn K (.ref (A 38)) (.ref (A 10)) = some false
  sb_38_38 : PySem.W.subIn K (.ref (A 38)) (.ref (A 38)) = some true
  cc_49_MOST : CCon K (A 49) "MOST" (.int 24)
  cc_49_TOP_KIND : CCon K (A 49) "TOP_KIND" (.int 999)
  is_5_MootError : PySem.W.kitOne K (.ref (A 5)) (.ref (A 0)) = some true
  is_5_ValueError : PySem.W.kitOne K (.ref (A 5)) (.type "ValueError") = some true
  is_6_MootError : PySem.W.kitOne K (.ref (A 6)) (.ref (A 0)) = some true
  is_6_ValueError : PySem.W.kitOne K (.ref (A 6)) (.type "ValueError") = some true
  is_7_MootError : PySem.W.kitOne K (.ref (A 7)) (.ref (A 0)) = some true
  is_7_QuietMove : PySem.W.kitOne K (.ref (A 7)) (.ref (A 38)) = some false
  is_10_MootError : PySem.W.kitOne K (.ref (A 10)) (.ref (A 0)) = some true
  is_10_ValueError : PySem.W.kitOne K (.ref (A 10)) (.type "ValueError") = some true
  is_38_MootError : PySem.W.kitOne K (.ref (A 38)) (.ref (A 0)) = some true
  is_38_ValueError : PySem.W.kitOne K (.ref (A 38)) (.type "ValueError") = some true
section
variable {P : Program} {w : World} {K : PySem.W.Frag} {mg : Str → Option Value} {base : Heap} {A : Nat → Addr}
theorem Tx.cfg (T : Tx P K mg A) : CfgOk K (cfg A) where
  at_ := fun c k n h => by
    have h : (fl0 c)[k]? = some n := h
    show Cls K (A c) ∧ NoAttr K (A c) n
    unfold fl0 at h
    split at h
    · rcases k with _ | k
      · cases h; exact ⟨T.cl_49, T.na_49_0⟩
      rcases k with _ | k
      · cases h; exact ⟨T.cl_49, T.na_49_1⟩
      rcases k with _ | k
      · cases h; exact ⟨T.cl_49, T.na_49_2⟩
      rcases k with _ | k
      · cases h; exact ⟨T.cl_49, T.na_49_3⟩
      rcases k with _ | k
      · cases h; exact ⟨T.cl_49, T.na_49_4⟩
      cases h
    · rcases k with _ | k
      · cases h; exact ⟨T.cl_52, T.na_52_0⟩
      rcases k with _ | k
      · cases h; exact ⟨T.cl_52, T.na_52_1⟩
      rcases k with _ | k
      · cases h; exact ⟨T.cl_52, T.na_52_2⟩
      rcases k with _ | k
      · cases h; exact ⟨T.cl_52, T.na_52_3⟩
      rcases k with _ | k
      · cases h; exact ⟨T.cl_52, T.na_52_4⟩
      rcases k with _ | k
      · cases h; exact ⟨T.cl_52, T.na_52_5⟩
      cases h
    · rcases k with _ | k
      · cases h; exact ⟨T.cl_56, T.na_56_0⟩
      rcases k with _ | k
      · cases h; exact ⟨T.cl_56, T.na_56_1⟩
      cases h
    · simp at h
  few := fun c => by show (fl0 c).length ≤ 100; unfold fl0; split <;> decide
  nd := fun c => by show (fl0 c).Nodup; unfold fl0; split <;> decide +kernel

def m__law_mixed : Ms := (mSq (mPut (tName 2) (mOp fMod (mCal kIntS (mCons (mOp fAdd (mOp fAdd (mVar 0) (mOp fMul (mC (.int 7919)) (mVar 1))) (mC (.int 13))) mNil)) (mC (.int 2147483647)))) (mSq (mPut (tName 2) (mOp fMod (mCal kIntS (mCons (mOp fMul (mVar 2) (mOp fAdd (mVar 2) (mC (.int 48271)))) mNil)) (mC (.int 2147483629)))) (mSq (mPut (tName 2) (mOp fMod (mCal kIntS (mCons (mOp fAdd (mOp fMul (mVar 2) (mOp fAdd (mVar 2) (mC (.int 69621)))) (mOp fMul (mC (.int 31)) (mVar 1))) mNil)) (mC (.int 2147483647)))) (mRet (mOp fFdiv (mVar 2) (mC (.int 9)))))))
def F__law_mixed : Fn := mFn 2 3 false m__law_mixed
theorem d__law_mixed (T : Tx P K mg A) {f : Addr} {fd : FuncData} (Fu : Fun K "_law_mixed" "_law_mixed" s__law_mixed f fd) : FnOk P w K mg base (L2N.CX P w) 1 f fd ["_law_cell_here", "_law_k"] (spF K (cfg A) false false F__law_mixed) := by
  have hN : (["_law_cell_here", "_law_k", "_law_mixed_here"] : List Str).Nodup := by decide +kernel
  exact fn_sim (N := ["_law_cell_here", "_law_k", "_law_mixed_here"]) (ps := ["_law_cell_here", "_law_k"]) (m := m__law_mixed) (ΓX := []) (Γ' := [false, false, false]) rfl Fu ⟨rfl, rfl, rfl, by decide +kernel, rfl, by decide +kernel, by decide +kernel⟩ fun cdv A' outer s H E hr => (sss_cons (ss_set 2 hN (sd_op op_mod f_mod (sb_of (sd_calT o_intS f_intS T.b_int rfl (sbs_cons (sb_of (sd_op o_add f_add (sb_of (sd_op o_add f_add (sb_var 0) (sb_of (sd_op op_mul f_mul (sb_of sd_int) (sb_var 1))))) (sb_of sd_int))) sbs_nil))) (sb_of sd_int))) (sss_cons (ss_set 2 hN (sd_op op_mod f_mod (sb_of (sd_calT o_intS f_intS T.b_int rfl (sbs_cons (sb_of (sd_op op_mul f_mul (sb_var 2) (sb_of (sd_op o_add f_add (sb_var 2) (sb_of sd_int))))) sbs_nil))) (sb_of sd_int))) (sss_cons (ss_set 2 hN (sd_op op_mod f_mod (sb_of (sd_calT o_intS f_intS T.b_int rfl (sbs_cons (sb_of (sd_op o_add f_add (sb_of (sd_op op_mul f_mul (sb_var 2) (sb_of (sd_op o_add f_add (sb_var 2) (sb_of sd_int))))) (sb_of (sd_op op_mul f_mul (sb_of sd_int) (sb_var 1))))) sbs_nil))) (sb_of sd_int))) (sss_one (ss_ret (sd_op op_fdivW f_fdiv (sb_var 2) (sb_of sd_int)))))))
theorem h__law_mixed (T : Tx P K mg A) : Has P w K mg base "_law_mixed" (cfg A) 1 false false ["_law_cell_here", "_law_k"] F__law_mixed := by
  obtain ⟨f, fd, Fu, hm⟩ := T.f__law_mixed
  exact ⟨f, fd, hm, Fu.kp, (Fu.binds (ps := ["_law_cell_here", "_law_k"]) fun _ _ _ _ _ _ us hl => match us, hl with | [_, _], _ => rfl), d__law_mixed T Fu⟩

def L0_law_draws : Ms := (mIf (mAndT (mTst (mOp fGe (mVar 0) (mOp fPow (mC (.int 10)) (mC (.int 18))))) (mTst (mOp fGt (mVar 4) (mC (.int 0))))) (mSq (mOwnS oAppend 3 (mCons (mOp fMod (mCal kIntS (mCons (mVar 4) mNil)) (mVar 2)) mNil) fun _ => mSkip) (mPut (tName 4) (mOp fFdiv (mVar 4) (mVar 2)))) (mOwnS oAppend 3 (mCons (mOp fMod (mCal kIntS (mCons (mCall F__law_mixed (mCons (mVar 0) (mCons (mVar 5) mNil))) mNil)) (mVar 2)) mNil) fun _ => mSkip))
def m__law_draws : Ms := (mSq (mOwn 3 (mLst mNil)) (mSq (mPut (tName 4) (mVar 0)) (mSq (mFor (mRng kRng1 (mCons (mVar 1) mNil)) (tName 5) L0_law_draws) (mRet (mVar 3)))))
def F__law_draws : Fn := mFn 3 6 false m__law_draws
theorem d__law_draws (T : Tx P K mg A) {f : Addr} {fd : FuncData} (Fu : Fun K "_law_draws" "_law_draws" s__law_draws f fd) : FnOk P w K mg base (L2N.CX P w) 2 f fd ["_law_cell_here", "_law_count", "_law_size"] (spF K (cfg A) false false F__law_draws) := by
  have hN : (["_law_cell_here", "_law_count", "_law_size", "_law_draws_here", "_law_rest", "_law_k"] : List Str).Nodup := by decide +kernel
  exact fn_sim (N := ["_law_cell_here", "_law_count", "_law_size", "_law_draws_here", "_law_rest", "_law_k"]) (ps := ["_law_cell_here", "_law_count", "_law_size"]) (m := m__law_draws) (ΓX := []) (Γ' := [false, false, false, true, false, false]) rfl Fu ⟨rfl, rfl, rfl, by decide +kernel, rfl, by decide +kernel, by decide +kernel⟩ fun cdv A' outer s H E hr => (sss_cons (ss_own 3 hN (sn_lst sds_nil)) (sss_cons (ss_set 4 hN (sd_var 0)) (sss_cons (ss_for (passes_of rfl) rfl (si_range1 (sds_cons (sd_var 1) sds_nil) T.b_range) (tg_name 5 hN) (sss_one (ss_if (Γ' := [false, false, false, true, false, false]) (st_w (sw_and (st_cmp op_ge f_ge (sb_var 0) (sb_of (sd_op op_pow f_pow (sb_of sd_int) (sb_of sd_int)))) (sw_and1 (st_cmp op_gt f_gt (sb_var 4) (sb_of sd_int))))) (sss_cons (ss_ownDo 3 (pe_bm PySem.F.plainAttrs_list PySem.F.slot_list_append PySem.F.type_list_append mt_append (pv 3) (sds_cons (sd_op op_mod f_mod (sb_of (sd_calT o_intS f_intS T.b_int rfl (sbs_cons (sb_var 4) sbs_nil))) (sb_var 2)) sds_nil)) oo_append) (sss_one (ss_set 4 hN (sd_op op_fdivW f_fdiv (sb_var 4) (sb_var 2))))) (sss_one (ss_ownDo 3 (pe_bm PySem.F.plainAttrs_list PySem.F.slot_list_append PySem.F.type_list_append mt_append (pv 3) (sds_cons (sd_op op_mod f_mod (sb_of (sd_calT o_intS f_intS T.b_int rfl (sbs_cons (sb_of (sd_fn (h__law_mixed T) (lets (L2N.takes_of rfl rfl rfl rfl)) hr (sds_cons (sd_var 0) (sds_cons (sd_var 5) sds_nil)))) sbs_nil))) (sb_var 2)) sds_nil)) oo_append))))) (sss_one (ss_let (Γ1 := [false, false, false, false, false, false]) (by rfl) (ss_ret (sd_var 3)))))))
theorem h__law_draws (T : Tx P K mg A) : Has P w K mg base "_law_draws" (cfg A) 2 false false ["_law_cell_here", "_law_count", "_law_size"] F__law_draws := by
  obtain ⟨f, fd, Fu, hm⟩ := T.f__law_draws
  exact ⟨f, fd, hm, Fu.kp, (Fu.binds (ps := ["_law_cell_here", "_law_count", "_law_size"]) fun _ _ _ _ _ _ us hl => match us, hl with | [_, _, _], _ => rfl), d__law_draws T Fu⟩

def m__law_cell : Ms := (mSq (mIf (mTst (mOp fLt (mVar 1) (mCal kLen (mCons (mVar 0) mNil)))) (mRet (mOp fIx (mVar 0) (mVar 1))) mSkip) (mRet (mC (.int 0))))
def F__law_cell : Fn := mFn 2 2 false m__law_cell
theorem d__law_cell (T : Tx P K mg A) {f : Addr} {fd : FuncData} (Fu : Fun K "_law_cell" "_law_cell" s__law_cell f fd) : FnOk P w K mg base (L2N.CX P w) 1 f fd ["_law_script", "_law_at"] (spF K (cfg A) false false F__law_cell) := by
  have hN : (["_law_script", "_law_at"] : List Str).Nodup := by decide +kernel
  exact fn_sim (N := ["_law_script", "_law_at"]) (ps := ["_law_script", "_law_at"]) (m := m__law_cell) (ΓX := []) (Γ' := [false, false]) rfl Fu ⟨rfl, rfl, rfl, by decide +kernel, rfl, by decide +kernel, by decide +kernel⟩ fun cdv A' outer s H E hr => (sss_cons (ss_if (Γ' := [false, false]) (st_cmp op_lt f_lt (sb_var 1) (sb_of (sd_calB o_len f_len T.b_len rfl (sbs_cons (sb_var 0) sbs_nil)))) (sss_one (ss_ret (sd_ix (sb_var 0) (sb_var 1)))) sss_nil) (sss_one (ss_ret sd_int)))
theorem h__law_cell (T : Tx P K mg A) : Has P w K mg base "_law_cell" (cfg A) 1 false false ["_law_script", "_law_at"] F__law_cell := by
  obtain ⟨f, fd, Fu, hm⟩ := T.f__law_cell
  exact ⟨f, fd, hm, Fu.kp, (Fu.binds (ps := ["_law_script", "_law_at"]) fun _ _ _ _ _ _ us hl => match us, hl with | [_, _], _ => rfl), d__law_cell T Fu⟩

def CE0_law_kinds : Mx D := (mOp fMod (mCal kIntS (mCons (mOp fAdd (mOp fIx (mVar 3) (mC (.int 2))) (mOp fMul (mVar 8) (mVar 6))) mNil)) (mC (.int 1000)))
def m__law_kinds : Ms := (mSq (mPut (tName 3) (mCall F__law_draws (mCons (mCall F__law_cell (mCons (mVar 0) (mCons (mVar 1) mNil))) (mCons (mC (.int 4)) (mCons (mC (.int 1000)) mNil))))) (mSq (mPut (tName 4) (mOp fAdd (mC (.int 2)) (mOp fMod (mOp fIx (mVar 3) (mC (.int 0))) (mOp fSub (mVar 2) (mC (.int 1)))))) (mSq (mPut (tName 5) (mOp fIx (mLst (mCons (mC (.int 1)) (mCons (mC (.int 2)) (mCons (mC (.int 2)) (mCons (mC (.int 3)) (mCons (mC (.int 3)) (mCons (mC (.int 4)) (mCons (mC (.int 6)) (mCons (mC (.int 24)) mNil))))))))) (mOp fMod (mOp fIx (mVar 3) (mC (.int 1))) (mC (.int 8))))) (mSq (mPut (tName 6) (mOp fIx (mLst (mCons (mC (.int 1)) (mCons (mC (.int 7)) (mCons (mC (.int 333)) (mCons (mC (.int 999)) mNil))))) (mOp fMod (mOp fIx (mVar 3) (mC (.int 3))) (mC (.int 4))))) (mSq (mPut (tName 7) (mCall F__law_draws (mCons (mCall F__law_cell (mCons (mVar 0) (mCons (mOp fAdd (mVar 1) (mC (.int 1))) mNil))) (mCons (mVar 4) (mCons (mVar 5) mNil))))) (mRet (mLc (mSeqA (mVar 7)) (tName 8) mYes CE0_law_kinds [8])))))))
def F__law_kinds : Fn := mFn 3 9 false m__law_kinds
theorem d__law_kinds (T : Tx P K mg A) {f : Addr} {fd : FuncData} (Fu : Fun K "_law_kinds" "_law_kinds" s__law_kinds f fd) : FnOk P w K mg base (L2N.CX P w) 3 f fd ["_law_script", "_law_at", "_law_most"] (spF K (cfg A) false false F__law_kinds) := by
  have hN : (["_law_script", "_law_at", "_law_most", "_law_shape", "_law_size", "_law_variety", "_law_step", "_law_picks", "_law_pick"] : List Str).Nodup := by decide +kernel
  exact fn_sim (N := ["_law_script", "_law_at", "_law_most", "_law_shape", "_law_size", "_law_variety", "_law_step", "_law_picks", "_law_pick"]) (ps := ["_law_script", "_law_at", "_law_most"]) (m := m__law_kinds) (ΓX := []) (Γ' := [false, false, false, false, false, false, false, false, false]) rfl Fu ⟨rfl, rfl, rfl, by decide +kernel, rfl, by decide +kernel, by decide +kernel⟩ fun cdv A' outer s H E hr => (sss_cons (ss_set 3 hN (sd_fn (h__law_draws T) (lets (L2N.takes_of rfl rfl rfl rfl)) hr (sds_cons (sd_fn (h__law_cell T) (lets (L2N.takes_of rfl rfl rfl rfl)) hr (sds_cons (sd_var 0) (sds_cons (sd_var 1) sds_nil))) (sds_cons sd_int (sds_cons sd_int sds_nil))))) (sss_cons (ss_set 4 hN (sd_op o_add f_add (sb_of sd_int) (sb_of (sd_op op_mod f_mod (sb_of (sd_ix (sb_var 3) (sb_of sd_int))) (sb_of (sd_op op_sub f_sub (sb_var 2) (sb_of sd_int))))))) (sss_cons (ss_set 5 hN (sd_ix (sb_of (sd_lst (sds_cons sd_int (sds_cons sd_int (sds_cons sd_int (sds_cons sd_int (sds_cons sd_int (sds_cons sd_int (sds_cons sd_int (sds_cons sd_int sds_nil)))))))))) (sb_of (sd_op op_mod f_mod (sb_of (sd_ix (sb_var 3) (sb_of sd_int))) (sb_of sd_int))))) (sss_cons (ss_set 6 hN (sd_ix (sb_of (sd_lst (sds_cons sd_int (sds_cons sd_int (sds_cons sd_int (sds_cons sd_int sds_nil)))))) (sb_of (sd_op op_mod f_mod (sb_of (sd_ix (sb_var 3) (sb_of sd_int))) (sb_of sd_int))))) (sss_cons (ss_set 7 hN (sd_fn (h__law_draws T) (lets (L2N.takes_of rfl rfl rfl rfl)) hr (sds_cons (sd_fn (h__law_cell T) (lets (L2N.takes_of rfl rfl rfl rfl)) hr (sds_cons (sd_var 0) (sds_cons (sd_op o_add f_add (sb_var 1) (sb_of sd_int)) sds_nil))) (sds_cons (sd_var 4) (sds_cons (sd_var 5) sds_nil))))) (sss_one (ss_ret (sd_lc (own := [("_law_pick", 8)]) rfl hN (si_seqAB (sb_var 7)) (by show BlkOk ["_law_script", "_law_at", "_law_most", "_law_shape", "_law_size", "_law_variety", "_law_step", "_law_picks", "_law_pick"] (defScope s__law_kinds) _ _; exact ⟨rfl, by decide +kernel, by decide +kernel, by decide +kernel, by decide +kernel⟩) (fun s H C cl fp => (tg_name 8 hN)) (fun s H C cl fp => sts_nil) (fun s H C cl fp => (sd_op op_mod f_mod (sb_of (sd_calT o_intS f_intS T.b_int rfl (sbs_cons (sb_of (sd_op o_add f_add (sb_of (sd_ix (sb_var 3) (sb_of sd_int))) (sb_of (sd_op op_mul f_mul (sb_var 8) (sb_var 6))))) sbs_nil))) (sb_of sd_int)))))))))))
theorem h__law_kinds (T : Tx P K mg A) : Has P w K mg base "_law_kinds" (cfg A) 3 false false ["_law_script", "_law_at", "_law_most"] F__law_kinds := by
  obtain ⟨f, fd, Fu, hm⟩ := T.f__law_kinds
  exact ⟨f, fd, hm, Fu.kp, (Fu.binds (ps := ["_law_script", "_law_at", "_law_most"]) fun _ _ _ _ _ _ us hl => match us, hl with | [_, _, _], _ => rfl), d__law_kinds T Fu⟩

def m__law_base : Ms := (mSq (mPut (tName 3) (mCall F__law_draws (mCons (mCall F__law_cell (mCons (mVar 0) (mCons (mVar 1) mNil))) (mCons (mC (.int 2)) (mCons (mC (.int 24)) mNil))))) (mSq (mIf (mTst (mOp fEq (mOp fMod (mOp fIx (mVar 3) (mC (.int 0))) (mC (.int 3))) (mC (.int 0)))) (mSq (mPut (tName 4) (mLst (mCons (mLst (mCons (mC (.int 5)) (mCons (mC (.int 5)) mNil))) (mCons (mLst (mCons (mC (.int 9)) (mCons (mC (.int 5)) mNil))) (mCons (mLst (mCons (mC (.int 4)) (mCons (mC (.int 4)) (mCons (mC (.int 4)) (mCons (mC (.int 4)) mNil))))) (mCons (mLst (mCons (mC (.int 1)) (mCons (mC (.int 1)) (mCons (mC (.int 1)) (mCons (mC (.int 2)) mNil))))) (mCons (mLst (mCons (mC (.int 1)) (mCons (mC (.int 1)) (mCons (mC (.int 2)) (mCons (mC (.int 1)) mNil))))) (mCons (mLst (mCons (mC (.int 1)) (mCons (mC (.int 1)) (mCons (mC (.int 2)) (mCons (mC (.int 1)) (mCons (mC (.int 1)) (mCons (mC (.int 1)) mNil))))))) (mCons (mLst (mCons (mC (.int 1)) (mCons (mC (.int 2)) (mCons (mC (.int 1)) (mCons (mC (.int 3)) (mCons (mC (.int 1)) mNil)))))) mNil))))))))) (mSq (mPut (tName 4) (mOp fAdd (mVar 4) (mLst (mCons (mLst (mCons (mC (.int 1)) (mCons (mC (.int 1)) (mCons (mC (.int 2)) (mCons (mC (.int 2)) (mCons (mC (.int 1)) (mCons (mC (.int 1)) mNil))))))) mNil)))) (mRet (mOp fIx (mVar 4) (mOp fMod (mOp fIx (mVar 3) (mC (.int 1))) (mC (.int 8))))))) mSkip) (mRet (mCall F__law_kinds (mCons (mVar 0) (mCons (mOp fAdd (mVar 1) (mC (.int 1))) (mCons (mVar 2) mNil)))))))
def F__law_base : Fn := mFn 3 5 false m__law_base
theorem d__law_base (T : Tx P K mg A) {f : Addr} {fd : FuncData} (Fu : Fun K "_law_base" "_law_base" s__law_base f fd) : FnOk P w K mg base (L2N.CX P w) 4 f fd ["_law_script", "_law_at", "_law_most"] (spF K (cfg A) false false F__law_base) := by
  have hN : (["_law_script", "_law_at", "_law_most", "_law_choice", "_law_fixed"] : List Str).Nodup := by decide +kernel
  exact fn_sim (N := ["_law_script", "_law_at", "_law_most", "_law_choice", "_law_fixed"]) (ps := ["_law_script", "_law_at", "_law_most"]) (m := m__law_base) (ΓX := []) (Γ' := [false, false, false, false, false]) rfl Fu ⟨rfl, rfl, rfl, by decide +kernel, rfl, by decide +kernel, by decide +kernel⟩ fun cdv A' outer s H E hr => (sss_cons (ss_set 3 hN (sd_fn (h__law_draws T) (lets (L2N.takes_of rfl rfl rfl rfl)) hr (sds_cons (sd_fn (h__law_cell T) (lets (L2N.takes_of rfl rfl rfl rfl)) hr (sds_cons (sd_var 0) (sds_cons (sd_var 1) sds_nil))) (sds_cons sd_int (sds_cons sd_int sds_nil))))) (sss_cons (ss_if (Γ' := [false, false, false, false, false]) (st_cmp (o_eq (Room.units hr)) f_eq (sb_of (sd_op op_mod f_mod (sb_of (sd_ix (sb_var 3) (sb_of sd_int))) (sb_of sd_int))) (sb_of sd_int)) (sss_cons (ss_set 4 hN (sd_lst (sds_cons (sd_lst (sds_cons sd_int (sds_cons sd_int sds_nil))) (sds_cons (sd_lst (sds_cons sd_int (sds_cons sd_int sds_nil))) (sds_cons (sd_lst (sds_cons sd_int (sds_cons sd_int (sds_cons sd_int (sds_cons sd_int sds_nil))))) (sds_cons (sd_lst (sds_cons sd_int (sds_cons sd_int (sds_cons sd_int (sds_cons sd_int sds_nil))))) (sds_cons (sd_lst (sds_cons sd_int (sds_cons sd_int (sds_cons sd_int (sds_cons sd_int sds_nil))))) (sds_cons (sd_lst (sds_cons sd_int (sds_cons sd_int (sds_cons sd_int (sds_cons sd_int (sds_cons sd_int (sds_cons sd_int sds_nil))))))) (sds_cons (sd_lst (sds_cons sd_int (sds_cons sd_int (sds_cons sd_int (sds_cons sd_int (sds_cons sd_int sds_nil)))))) sds_nil))))))))) (sss_cons (ss_set 4 hN (sd_op o_add f_add (sb_var 4) (sb_of (sd_lst (sds_cons (sd_lst (sds_cons sd_int (sds_cons sd_int (sds_cons sd_int (sds_cons sd_int (sds_cons sd_int (sds_cons sd_int sds_nil))))))) sds_nil))))) (sss_one (ss_ret (sd_ix (sb_var 4) (sb_of (sd_op op_mod f_mod (sb_of (sd_ix (sb_var 3) (sb_of sd_int))) (sb_of sd_int)))))))) sss_nil) (sss_one (ss_ret (sd_fn (h__law_kinds T) (lets (L2N.takes_of rfl rfl rfl rfl)) hr (sds_cons (sd_var 0) (sds_cons (sd_op o_add f_add (sb_var 1) (sb_of sd_int)) (sds_cons (sd_var 2) sds_nil))))))))
theorem h__law_base (T : Tx P K mg A) : Has P w K mg base "_law_base" (cfg A) 4 false false ["_law_script", "_law_at", "_law_most"] F__law_base := by
  obtain ⟨f, fd, Fu, hm⟩ := T.f__law_base
  exact ⟨f, fd, hm, Fu.kp, (Fu.binds (ps := ["_law_script", "_law_at", "_law_most"]) fun _ _ _ _ _ _ us hl => match us, hl with | [_, _, _], _ => rfl), d__law_base T Fu⟩

def L0_Strand___init : Ms := (mIf (mOrT (mTst (mOp fLt (mOp fIx (mVar 1) (mVar 3)) (mC (.int 0)))) (mTst (mOp fGt (mOp fIx (mVar 1) (mVar 3)) (mC (.int 999))))) (mRaise 1 1 (mCons (mVar 3) mNil)) mSkip)
def CT1_Strand___init : Mx Bool := (mTst (mOp fNe (mOp fIx (mVar 1) (mVar 3)) (mOp fIx (mVar 1) (mOp fSub (mVar 3) (mC (.int 1))))))
def CE2_Strand___init : Mx D := (mVar 3)
def m_Strand_init : Ms := (mSq (mPut (tName 1) (mCal kTuple (mCons (mVar 1) mNil))) (mSq (mPut (tName 2) (mCal kLen (mCons (mVar 1) mNil))) (mSq (mIf (mOrT (mTst (mOp fLt (mVar 2) (mC (.int 2)))) (mTst (mOp fGt (mVar 2) (mC (.int 24))))) (mRaise 1 1 (mCons (mC .non) mNil)) mSkip) (mSq (mFor (mRng kRng1 (mCons (mVar 2) mNil)) (tName 3) L0_Strand___init) (mSq (mSetF 49 0 (mVar 0) (mVar 1)) (mSq (mSetF 49 1 (mVar 0) (mVar 2)) (mSq (mSetF 49 2 (mVar 0) (mCal kLen (mCons (mLc (mRng kRng1 (mCons (mVar 2) mNil)) (tName 3) CT1_Strand___init CE2_Strand___init [3]) mNil))) (mSq (mSetF 49 3 (mVar 0) (mCal kIntS (mCons (mOp fNe (mOp fIx (mVar 1) (mC (.int 0))) (mOp fIx (mVar 1) (mUn fNeg (mC (.int 1))))) mNil))) (mSetF 49 4 (mVar 0) (mUn fLenSet (mVar 1)))))))))))
def F_Strand_init : Fn := mFn 2 4 false m_Strand_init
theorem d_Strand_init (T : Tx P K mg A) {f : Addr} {fd : FuncData} (Fu : Fun K "__init__" "Strand.__init__" s_Strand_init f fd) : FnOk P w K mg base (L2N.CX P w) 2 f fd ["self", "kinds"] (spF K (cfg A) true false F_Strand_init) := by
  have hN : (["self", "kinds", "size", "bead"] : List Str).Nodup := by decide +kernel
  exact fn_sim (N := ["self", "kinds", "size", "bead"]) (ps := ["self", "kinds"]) (m := m_Strand_init) (ΓX := []) (Γ' := [false, false, false, false]) rfl Fu ⟨rfl, rfl, rfl, by decide +kernel, rfl, by decide +kernel, by decide +kernel⟩ fun cdv A' outer s H E hr => (sss_cons (ss_set 1 hN (sd_calT o_tuple f_tuple T.b_tuple rfl (sbs_cons (sb_var 1) sbs_nil))) (sss_cons (ss_set 2 hN (sd_calB o_len f_len T.b_len rfl (sbs_cons (sb_var 1) sbs_nil))) (sss_cons (ss_if (Γ' := [false, false, false, false]) (st_w (sw_or (st_cmp op_lt f_lt (sb_var 2) (sb_of sd_int)) (sw_or1 (st_cmp op_gt f_gt (sb_var 2) (sb_of (sd_ccon T.c_Strand T.cc_49_MOST)))))) (sss_one (ss_raise1 rfl (L2N.takes_of rfl rfl rfl rfl) T.es_1 in_at T.c_BadStrand T.kx_1 (raises_own T.rx_1 T.ty_1) hr (sds_cons sd_non sds_nil))) sss_nil) (sss_cons (ss_for (passes_of rfl) rfl (si_range1 (sds_cons (sd_var 2) sds_nil) T.b_range) (tg_name 3 hN) (sss_one (ss_if (Γ' := [false, false, false, false]) (st_w (sw_or (st_cmp op_lt f_lt (sb_of (sd_ix (sb_var 1) (sb_var 3))) (sb_of sd_int)) (sw_or1 (st_cmp op_gt f_gt (sb_of (sd_ix (sb_var 1) (sb_var 3))) (sb_of (sd_ccon T.c_Strand T.cc_49_TOP_KIND)))))) (sss_one (ss_raise1 rfl (L2N.takes_of rfl rfl rfl rfl) T.es_1 in_at T.c_BadStrand T.kx_1 (raises_own T.rx_1 T.ty_1) hr (sds_cons (sd_var 3) sds_nil))) sss_nil))) (sss_cons (ss_setF 49 0 T.cfg (sd_var 0) (sd_var 1)) (sss_cons (ss_setF 49 1 T.cfg (sd_var 0) (sd_var 2)) (sss_cons (ss_setF 49 2 T.cfg (sd_var 0) (sd_calB o_len f_len T.b_len rfl (sbs_cons (sb_of (sd_lc (tt := tDb K _ _ _) (own := [("bead", 3)]) rfl hN (si_range1 (sds_cons (sd_var 2) sds_nil) T.b_range) (by show BlkOk ["self", "kinds", "size", "bead"] (defScope s_Strand_init) _ _; exact ⟨rfl, by decide +kernel, by decide +kernel, by decide +kernel, by decide +kernel⟩) (fun s H C cl fp => (tg_name 3 hN)) (fun s H C cl fp => (sts_one (st_cmp (o_ne (Room.units hr)) f_ne (sb_of (sd_ix (sb_var 1) (sb_var 3))) (sb_of (sd_ix (sb_var 1) (sb_of (sd_op op_sub f_sub (sb_var 3) (sb_of sd_int)))))))) (fun s H C cl fp => (sd_var 3)))) sbs_nil))) (sss_cons (ss_setF 49 3 T.cfg (sd_var 0) (sd_calT o_intS f_intS T.b_int rfl (sbs_cons (sb_of (sd_cmp (o_ne (Room.units hr)) f_ne (sb_of (sd_ix (sb_var 1) (sb_of sd_int))) (sb_of (sd_ix (sb_var 1) (sb_of (sd_un un_neg f_neg (sb_of sd_int))))))) sbs_nil))) (sss_one (ss_setF 49 4 T.cfg (sd_var 0) (sd_lenSet rfl T.b_len T.b_set (sd_var 1))))))))))))
theorem h_Strand_init (T : Tx P K mg A) : HasC P w K mg base "Strand" 49 (cfg A) 2 true ["self", "kinds"] F_Strand_init := by
  obtain ⟨f, fd, Fu, hi, hf⟩ := T.m_49_init
  exact ⟨f, fd, T.c_Strand, ⟨T.mk_49, hi, hf, T.kp_49⟩, (Fu.binds (ps := ["self", "kinds"]) fun _ _ _ _ _ _ us hl => match us, hl with | [_, _], _ => rfl), d_Strand_init T Fu⟩

def CE0_Row___init : Mx D := (mTup (mCons (mVar 2) (mCons (mOp fAdd (mVar 2) (mC (.int 1))) mNil)))
def m_Row_init : Ms := (mSq (mSetF 52 0 (mVar 0) (mFld [(49, 0)] (mVar 1))) (mSq (mSetF 52 1 (mVar 0) (mLRg kR1 (mCons (mFld [(49, 1)] (mVar 1)) mNil))) (mSq (mSetF 52 2 (mVar 0) (mLst mNil)) (mSq (mSetF 52 3 (mVar 0) (mLst mNil)) (mSq (mSetF 52 4 (mVar 0) (mLc (mRng kRng1 (mCons (mOp fSub (mFld [(49, 1)] (mVar 1)) (mC (.int 1))) mNil)) (tName 2) mYes CE0_Row___init [2])) (mSetF 52 5 (mVar 0) (mLst mNil)))))))
def F_Row_init : Fn := mFn 2 3 false m_Row_init
theorem d_Row_init (T : Tx P K mg A) {f : Addr} {fd : FuncData} (Fu : Fun K "__init__" "Row.__init__" s_Row_init f fd) : FnOk P w K mg base (L2N.CX P w) 1 f fd ["self", "strand"] (spF K (cfg A) true false F_Row_init) := by
  have hN : (["self", "strand", "bead"] : List Str).Nodup := by decide +kernel
  exact fn_sim (N := ["self", "strand", "bead"]) (ps := ["self", "strand"]) (m := m_Row_init) (ΓX := []) (Γ' := [false, false, false]) rfl Fu ⟨rfl, rfl, rfl, by decide +kernel, rfl, by decide +kernel, by decide +kernel⟩ fun cdv A' outer s H E hr => (sss_cons (ss_setF 52 0 T.cfg (sd_var 0) (sd_fld [(49, 0)] T.cfg (sd_var 1))) (sss_cons (ss_setF 52 1 T.cfg (sd_var 0) (sd_listR1 rfl T.b_list T.b_range (sd_fld [(49, 1)] T.cfg (sd_var 1)))) (sss_cons (ss_ownF 52 2 T.cfg (sd_var 0) (sn_lst sds_nil)) (sss_cons (ss_ownF 52 3 T.cfg (sd_var 0) (sn_lst sds_nil)) (sss_cons (ss_ownF 52 4 T.cfg (sd_var 0) (sn_lc (own := [("bead", 2)]) rfl hN (si_range1 (sds_cons (sd_op op_sub f_sub (sb_of (sd_fld [(49, 1)] T.cfg (sd_var 1))) (sb_of sd_int)) sds_nil) T.b_range) (by show BlkOk ["self", "strand", "bead"] (defScope s_Row_init) _ _; exact ⟨rfl, by decide +kernel, by decide +kernel, by decide +kernel, by decide +kernel⟩) (fun s H C cl fp => (tg_name 2 hN)) (fun s H C cl fp => sts_nil) (fun s H C cl fp => (sd_tup (sds_cons (sd_var 2) (sds_cons (sd_op o_add f_add (sb_var 2) (sb_of sd_int)) sds_nil)))))) (sss_one (ss_ownF 52 5 T.cfg (sd_var 0) (sn_lst sds_nil))))))))
theorem h_Row_init (T : Tx P K mg A) : HasC P w K mg base "Row" 52 (cfg A) 1 true ["self", "strand"] F_Row_init := by
  obtain ⟨f, fd, Fu, hi, hf⟩ := T.m_52_init
  exact ⟨f, fd, T.c_Row, ⟨T.mk_52, hi, hf, T.kp_52⟩, (Fu.binds (ps := ["self", "strand"]) fun _ _ _ _ _ _ us hl => match us, hl with | [_, _], _ => rfl), d_Row_init T Fu⟩

def m_Game_init : Ms := (mSq (mSetF 56 0 (mVar 0) (mMk 52 6 F_Row_init (mCons (mVar 1) mNil))) (mSetF 56 1 (mVar 0) (mVar 2)))
def F_Game_init : Fn := mFn 3 3 false m_Game_init
theorem d_Game_init (T : Tx P K mg A) {f : Addr} {fd : FuncData} (Fu : FunX K "__init__" "Game.__init__" s_Game_init [] [("stuck_loses", (.bl true))] f fd) : FnOk P w K mg base (L2N.CX P w) 3 f fd ["self", "strand", "stuck_loses"] (spF K (cfg A) true false F_Game_init) := by
  have hN : (["self", "strand", "stuck_loses"] : List Str).Nodup := by decide +kernel
  exact fn_simX (N := ["self", "strand", "stuck_loses"]) (ps := ["self", "strand", "stuck_loses"]) (m := m_Game_init) (ΓX := []) (Γ' := [false, false, false]) rfl Fu ⟨rfl, rfl, rfl, by decide +kernel, rfl, by decide +kernel, by decide +kernel⟩ fun cdv A' outer s H E hr => (sss_cons (ss_setF 56 0 T.cfg (sd_var 0) (sd_new (h_Row_init T) (lets (L2N.takes_of rfl rfl rfl rfl)) hr (sds_cons (sd_var 1) sds_nil))) (sss_one (ss_setF 56 1 T.cfg (sd_var 0) (sd_var 2))))
theorem h_Game_init_g0 (T : Tx P K mg A) : HasCG P w K mg base "Game" 56 (cfg A) 3 true ["self", "strand", "stuck_loses"] [] 2 [.df 0] [(.bl true)] F_Game_init := by
  obtain ⟨f, fd, Fu, hi, hf⟩ := T.m_56_init
  exact ⟨f, fd, T.c_Game, ⟨T.mk_56, hi, hf, T.kp_56⟩, (FunX.kg0 Fu (ps := ["self", "strand", "stuck_loses"]) (ks := []) (n := 2) (ss := [.df 0]) [("stuck_loses", (.bl true))] (by simp) (by simp) fun _ _ _ _ _ _ us mv ws h1 h2 h3 => match us, mv, ws, h1, h2, h3 with | [_, _], [_], [], _, _, _ => ⟨_, _, _, _, _, _, rfl, rfl, rfl⟩), d_Game_init T Fu⟩
theorem h_Game_init_g1 (T : Tx P K mg A) : HasCG P w K mg base "Game" 56 (cfg A) 3 true ["self", "strand", "stuck_loses"] ["stuck_loses"] 2 [.kw 0] [] F_Game_init := by
  obtain ⟨f, fd, Fu, hi, hf⟩ := T.m_56_init
  exact ⟨f, fd, T.c_Game, ⟨T.mk_56, hi, hf, T.kp_56⟩, (FunX_kg Fu (ps := ["self", "strand", "stuck_loses"]) (ks := ["stuck_loses"]) (n := 2) (ss := [.kw 0]) fun _ _ _ _ _ _ us ws h1 h2 => match us, ws, h1, h2 with | [_, _], [_], _, _ => rfl), d_Game_init T Fu⟩

def m__law_game : Ms := (mSq (mIf (mTst (mOp fEq (mVar 1) (mC (.int 0)))) (mRet (mMk 56 2 F_Game_init (mSel 1 0 [.df 0] [(.bl true)] (mCons (mVar 0) mNil) mNil))) mSkip) (mSq (mIf (mTst (mOp fEq (mVar 1) (mC (.int 1)))) (mRet (mMk 56 2 F_Game_init (mSel 1 1 [.kw 0] [] (mCons (mVar 0) mNil) (mCons (mC (.bl true)) mNil)))) mSkip) (mRet (mMk 56 2 F_Game_init (mSel 1 1 [.kw 0] [] (mCons (mVar 0) mNil) (mCons (mC (.bl false)) mNil))))))
def F__law_game : Fn := mFn 2 2 false m__law_game
theorem d__law_game (T : Tx P K mg A) {f : Addr} {fd : FuncData} (Fu : Fun K "_law_game" "_law_game" s__law_game f fd) : FnOk P w K mg base (L2N.CX P w) 5 f fd ["_law_line", "_law_aim"] (spF K (cfg A) true false F__law_game) := by
  have hN : (["_law_line", "_law_aim"] : List Str).Nodup := by decide +kernel
  exact fn_sim (N := ["_law_line", "_law_aim"]) (ps := ["_law_line", "_law_aim"]) (m := m__law_game) (ΓX := []) (Γ' := [false, false]) rfl Fu ⟨rfl, rfl, rfl, by decide +kernel, rfl, by decide +kernel, by decide +kernel⟩ fun cdv A' outer s H E hr => (sss_cons (ss_if (Γ' := [false, false]) (st_cmp (o_eq (Room.units hr)) f_eq (sb_var 1) (sb_of sd_int)) (sss_one (ss_ret (sd_mkg (h_Game_init_g0 T) (lets (L2N.takes_of rfl rfl rfl rfl)) hr (ca_pos (sds_cons (sd_var 0) sds_nil))))) sss_nil) (sss_cons (ss_if (Γ' := [false, false]) (st_cmp (o_eq (Room.units hr)) f_eq (sb_var 1) (sb_of sd_int)) (sss_one (ss_ret (sd_mkg (h_Game_init_g1 T) (lets (L2N.takes_of rfl rfl rfl rfl)) hr (ca_both ["stuck_loses"] (sds_cons (sd_var 0) sds_nil) (sks_cons sd_bl sks_nil))))) sss_nil) (sss_one (ss_ret (sd_mkg (h_Game_init_g1 T) (lets (L2N.takes_of rfl rfl rfl rfl)) hr (ca_both ["stuck_loses"] (sds_cons (sd_var 0) sds_nil) (sks_cons sd_bl sks_nil)))))))
theorem h__law_game (T : Tx P K mg A) : Has P w K mg base "_law_game" (cfg A) 5 true false ["_law_line", "_law_aim"] F__law_game := by
  obtain ⟨f, fd, Fu, hm⟩ := T.f__law_game
  exact ⟨f, fd, hm, Fu.kp, (Fu.binds (ps := ["_law_line", "_law_aim"]) fun _ _ _ _ _ _ us hl => match us, hl with | [_, _], _ => rfl), d__law_game T Fu⟩

def m__law_mark : Ms := (mSq (mIf (mTst (mOp fEq (mVar 0) (mVar 2))) (mSq (mIf (mTst (mOp fEq (mVar 1) (mVar 0))) (mRet (mC (.str "quiet"))) mSkip) (mRet (mC (.str "odd")))) mSkip) (mSq (mIf (mOrT (mTst (mOp fEq (mVar 1) (mVar 0))) (mTst (mOp fEq (mVar 1) (mVar 2)))) (mRet (mC (.str "edge"))) mSkip) (mRet (mC (.str "strife")))))
def F__law_mark : Fn := mFn 3 3 false m__law_mark
theorem d__law_mark (T : Tx P K mg A) {f : Addr} {fd : FuncData} (Fu : Fun K "_law_mark" "_law_mark" s__law_mark f fd) : FnOk P w K mg base (L2N.CX P w) 1 f fd ["_law_left", "_law_bead", "_law_right"] (spF K (cfg A) false false F__law_mark) := by
  have hN : (["_law_left", "_law_bead", "_law_right"] : List Str).Nodup := by decide +kernel
  exact fn_sim (N := ["_law_left", "_law_bead", "_law_right"]) (ps := ["_law_left", "_law_bead", "_law_right"]) (m := m__law_mark) (ΓX := []) (Γ' := [false, false, false]) rfl Fu ⟨rfl, rfl, rfl, by decide +kernel, rfl, by decide +kernel, by decide +kernel⟩ fun cdv A' outer s H E hr => (sss_cons (ss_if (Γ' := [false, false, false]) (st_cmp (o_eq (Room.units hr)) f_eq (sb_var 0) (sb_var 2)) (sss_cons (ss_if (Γ' := [false, false, false]) (st_cmp (o_eq (Room.units hr)) f_eq (sb_var 1) (sb_var 0)) (sss_one (ss_ret sd_str)) sss_nil) (sss_one (ss_ret sd_str))) sss_nil) (sss_cons (ss_if (Γ' := [false, false, false]) (st_w (sw_or (st_cmp (o_eq (Room.units hr)) f_eq (sb_var 1) (sb_var 0)) (sw_or1 (st_cmp (o_eq (Room.units hr)) f_eq (sb_var 1) (sb_var 2))))) (sss_one (ss_ret sd_str)) sss_nil) (sss_one (ss_ret sd_str))))
theorem h__law_mark (T : Tx P K mg A) : Has P w K mg base "_law_mark" (cfg A) 1 false false ["_law_left", "_law_bead", "_law_right"] F__law_mark := by
  obtain ⟨f, fd, Fu, hm⟩ := T.f__law_mark
  exact ⟨f, fd, hm, Fu.kp, (Fu.binds (ps := ["_law_left", "_law_bead", "_law_right"]) fun _ _ _ _ _ _ us hl => match us, hl with | [_, _, _], _ => rfl), d__law_mark T Fu⟩

def m__law_mark_at : Ms := (mRet (mCall F__law_mark (mCons (mOp fIx (mVar 0) (mOp fIx (mVar 1) (mOp fSub (mVar 2) (mC (.int 1))))) (mCons (mOp fIx (mVar 0) (mOp fIx (mVar 1) (mVar 2))) (mCons (mOp fIx (mVar 0) (mOp fIx (mVar 1) (mOp fAdd (mVar 2) (mC (.int 1))))) mNil)))))
def F__law_mark_at : Fn := mFn 3 3 false m__law_mark_at
theorem d__law_mark_at (T : Tx P K mg A) {f : Addr} {fd : FuncData} (Fu : Fun K "_law_mark_at" "_law_mark_at" s__law_mark_at f fd) : FnOk P w K mg base (L2N.CX P w) 2 f fd ["_law_kinds_here", "_law_standing", "_law_at"] (spF K (cfg A) false false F__law_mark_at) := by
  have hN : (["_law_kinds_here", "_law_standing", "_law_at"] : List Str).Nodup := by decide +kernel
  exact fn_sim (N := ["_law_kinds_here", "_law_standing", "_law_at"]) (ps := ["_law_kinds_here", "_law_standing", "_law_at"]) (m := m__law_mark_at) (ΓX := []) (Γ' := [false, false, false]) rfl Fu ⟨rfl, rfl, rfl, by decide +kernel, rfl, by decide +kernel, by decide +kernel⟩ fun cdv A' outer s H E hr => (sss_one (ss_ret (sd_fn (h__law_mark T) (lets (L2N.takes_of rfl rfl rfl rfl)) hr (sds_cons (sd_ix (sb_var 0) (sb_of (sd_ix (sb_var 1) (sb_of (sd_op op_sub f_sub (sb_var 2) (sb_of sd_int)))))) (sds_cons (sd_ix (sb_var 0) (sb_of (sd_ix (sb_var 1) (sb_var 2)))) (sds_cons (sd_ix (sb_var 0) (sb_of (sd_ix (sb_var 1) (sb_of (sd_op o_add f_add (sb_var 2) (sb_of sd_int)))))) sds_nil))))))
theorem h__law_mark_at (T : Tx P K mg A) : Has P w K mg base "_law_mark_at" (cfg A) 2 false false ["_law_kinds_here", "_law_standing", "_law_at"] F__law_mark_at := by
  obtain ⟨f, fd, Fu, hm⟩ := T.f__law_mark_at
  exact ⟨f, fd, hm, Fu.kp, (Fu.binds (ps := ["_law_kinds_here", "_law_standing", "_law_at"]) fun _ _ _ _ _ _ us hl => match us, hl with | [_, _, _], _ => rfl), d__law_mark_at T Fu⟩

def CT0_law_allowed : Mx Bool := (mTst (mOp fNe (mCall F__law_mark_at (mCons (mVar 0) (mCons (mVar 1) (mCons (mVar 2) mNil)))) (mC (.str "quiet"))))
def CE1_law_allowed : Mx D := (mOp fIx (mVar 1) (mVar 2))
def m__law_allowed : Ms := (mRet (mLc (mRng kRng2 (mCons (mC (.int 1)) (mCons (mOp fSub (mCal kLen (mCons (mVar 1) mNil)) (mC (.int 1))) mNil))) (tName 2) CT0_law_allowed CE1_law_allowed [2]))
def F__law_allowed : Fn := mFn 2 3 false m__law_allowed
theorem d__law_allowed (T : Tx P K mg A) {f : Addr} {fd : FuncData} (Fu : Fun K "_law_allowed" "_law_allowed" s__law_allowed f fd) : FnOk P w K mg base (L2N.CX P w) 3 f fd ["_law_kinds_here", "_law_standing"] (spF K (cfg A) false false F__law_allowed) := by
  have hN : (["_law_kinds_here", "_law_standing", "_law_at"] : List Str).Nodup := by decide +kernel
  exact fn_sim (N := ["_law_kinds_here", "_law_standing", "_law_at"]) (ps := ["_law_kinds_here", "_law_standing"]) (m := m__law_allowed) (ΓX := []) (Γ' := [false, false, false]) rfl Fu ⟨rfl, rfl, rfl, by decide +kernel, rfl, by decide +kernel, by decide +kernel⟩ fun cdv A' outer s H E hr => (sss_one (ss_ret (sd_lc (tt := tDb K _ _ _) (own := [("_law_at", 2)]) rfl hN (si_range2 (sds_cons sd_int (sds_cons (sd_op op_sub f_sub (sb_of (sd_calB o_len f_len T.b_len rfl (sbs_cons (sb_var 1) sbs_nil))) (sb_of sd_int)) sds_nil)) T.b_range) (by show BlkOk ["_law_kinds_here", "_law_standing", "_law_at"] (defScope s__law_allowed) _ _; exact ⟨rfl, by decide +kernel, by decide +kernel, by decide +kernel, by decide +kernel⟩) (fun s H C cl fp => (tg_name 2 hN)) (fun s H C cl fp => (sts_one (st_cmp (o_ne (Room.units hr)) f_ne (sb_of (sd_fn (h__law_mark_at T) lets0 hr (sds_cons (sd_var 0) (sds_cons (sd_var 1) (sds_cons (sd_var 2) sds_nil))))) (sb_of sd_str)))) (fun s H C cl fp => (sd_ix (sb_var 1) (sb_var 2))))))
theorem h__law_allowed (T : Tx P K mg A) : Has P w K mg base "_law_allowed" (cfg A) 3 false false ["_law_kinds_here", "_law_standing"] F__law_allowed := by
  obtain ⟨f, fd, Fu, hm⟩ := T.f__law_allowed
  exact ⟨f, fd, hm, Fu.kp, (Fu.binds (ps := ["_law_kinds_here", "_law_standing"]) fun _ _ _ _ _ _ us hl => match us, hl with | [_, _], _ => rfl), d__law_allowed T Fu⟩

def CT0_law_bad : Mx Bool := (mTst (mOp fNotIn (mVar 9) (mVar 7)))
def CE1_law_bad : Mx D := (mVar 9)
def m__law_bad : Ms := (mSq (mPut (tName 4) (mCal kLen (mCons (mVar 0) mNil))) (mSq (mPut (tName 5) (mOp fMod (mCal kIntS (mCons (mVar 3) mNil)) (mC (.int 8)))) (mSq (mPut (tName 6) (mOp fFdiv (mCal kIntS (mCons (mVar 3) mNil)) (mC (.int 8)))) (mSq (mPut (tName 7) (mCall F__law_allowed (mCons (mVar 0) (mCons (mVar 1) mNil)))) (mSq (mPut (tName 8) (mLc (mSeqA (mSl (mVar 1) (some (mC (.int 1))) (some (mUn fNeg (mC (.int 1)))))) (tName 9) CT0_law_bad CE1_law_bad [9])) (mSq (mIf (mAndT (mTst (mOp fLt (mVar 5) (mC (.int 3)))) (mTst (mOp fGt (mCal kLen (mCons (mVar 8) mNil)) (mC (.int 0))))) (mRet (mTup (mCons (mOp fIx (mVar 8) (mOp fMod (mVar 6) (mCal kLen (mCons (mVar 8) mNil)))) (mCons (mC (.str "QuietMove")) mNil)))) mSkip) (mSq (mIf (mAndT (mTst (mOp fLt (mVar 5) (mC (.int 5)))) (mTst (mOp fGt (mCal kLen (mCons (mVar 2) mNil)) (mC (.int 0))))) (mRet (mTup (mCons (mOp fIx (mVar 2) (mOp fMod (mVar 6) (mCal kLen (mCons (mVar 2) mNil)))) (mCons (mC (.str "GoneBead")) mNil)))) mSkip) (mSq (mIf (mTst (mOp fEq (mVar 5) (mC (.int 5)))) (mRet (mTup (mCons (mOp fAdd (mVar 4) (mOp fMod (mVar 6) (mC (.int 3)))) (mCons (mC (.str "NoSuchBead")) mNil)))) mSkip) (mSq (mIf (mTst (mOp fEq (mVar 5) (mC (.int 6)))) (mRet (mTup (mCons (mOp fSub (mUn fNeg (mC (.int 1))) (mOp fMod (mVar 6) (mC (.int 3)))) (mCons (mC (.str "NoSuchBead")) mNil)))) mSkip) (mRet (mTup (mCons (mOp fIx (mLst (mCons (mC (.int 0)) (mCons (mOp fSub (mVar 4) (mC (.int 1))) mNil))) (mOp fMod (mVar 6) (mC (.int 2)))) (mCons (mC (.str "EndBead")) mNil)))))))))))))
def F__law_bad : Fn := mFn 4 10 false m__law_bad
theorem d__law_bad (T : Tx P K mg A) {f : Addr} {fd : FuncData} (Fu : Fun K "_law_bad" "_law_bad" s__law_bad f fd) : FnOk P w K mg base (L2N.CX P w) 4 f fd ["_law_kinds_here", "_law_standing", "_law_made", "_law_pick"] (spF K (cfg A) false false F__law_bad) := by
  have hN : (["_law_kinds_here", "_law_standing", "_law_made", "_law_pick", "_law_size", "_law_which", "_law_more", "_law_allowed_here", "_law_silent", "_law_bead"] : List Str).Nodup := by decide +kernel
  exact fn_sim (N := ["_law_kinds_here", "_law_standing", "_law_made", "_law_pick", "_law_size", "_law_which", "_law_more", "_law_allowed_here", "_law_silent", "_law_bead"]) (ps := ["_law_kinds_here", "_law_standing", "_law_made", "_law_pick"]) (m := m__law_bad) (ΓX := []) (Γ' := [false, false, false, false, false, false, false, false, false, false]) rfl Fu ⟨rfl, rfl, rfl, by decide +kernel, rfl, by decide +kernel, by decide +kernel⟩ fun cdv A' outer s H E hr => (sss_cons (ss_set 4 hN (sd_calB o_len f_len T.b_len rfl (sbs_cons (sb_var 0) sbs_nil))) (sss_cons (ss_set 5 hN (sd_op op_mod f_mod (sb_of (sd_calT o_intS f_intS T.b_int rfl (sbs_cons (sb_var 3) sbs_nil))) (sb_of sd_int))) (sss_cons (ss_set 6 hN (sd_op op_fdivW f_fdiv (sb_of (sd_calT o_intS f_intS T.b_int rfl (sbs_cons (sb_var 3) sbs_nil))) (sb_of sd_int))) (sss_cons (ss_set 7 hN (sd_fn (h__law_allowed T) (lets (L2N.takes_of rfl rfl rfl rfl)) hr (sds_cons (sd_var 0) (sds_cons (sd_var 1) sds_nil)))) (sss_cons (ss_setLc 8 hN (tt := tDb K _ _ _) (own := [("_law_bead", 9)]) rfl (si_seqAB (sb_of (sd_sl (sb_var 1) (SP.some sd_int) (SP.some (sd_un un_neg f_neg (sb_of sd_int)))))) (by show BlkOk ["_law_kinds_here", "_law_standing", "_law_made", "_law_pick", "_law_size", "_law_which", "_law_more", "_law_allowed_here", "_law_silent", "_law_bead"] (defScope s__law_bad) _ _; exact ⟨rfl, by decide +kernel, by decide +kernel, by decide +kernel, by decide +kernel⟩) (fun s H C cl fp => (tg_name 9 hN)) (fun s H C cl fp => (sts_one (st_cmp o_notin f_notin (sb_var 9) (sb_var 7)))) (fun s H C cl fp => (sd_var 9))) (sss_cons (ss_if (Γ' := [false, false, false, false, false, false, false, false, false, false]) (st_w (sw_and (st_cmp op_lt f_lt (sb_var 5) (sb_of sd_int)) (sw_and1 (st_cmp op_gt f_gt (sb_of (sd_calB o_len f_len T.b_len rfl (sbs_cons (sb_var 8) sbs_nil))) (sb_of sd_int))))) (sss_one (ss_ret (sd_tup (sds_cons (sd_ix (sb_var 8) (sb_of (sd_op op_mod f_mod (sb_var 6) (sb_of (sd_calB o_len f_len T.b_len rfl (sbs_cons (sb_var 8) sbs_nil)))))) (sds_cons sd_str sds_nil))))) sss_nil) (sss_cons (ss_if (Γ' := [false, false, false, false, false, false, false, false, false, false]) (st_w (sw_and (st_cmp op_lt f_lt (sb_var 5) (sb_of sd_int)) (sw_and1 (st_cmp op_gt f_gt (sb_of (sd_calB o_len f_len T.b_len rfl (sbs_cons (sb_var 2) sbs_nil))) (sb_of sd_int))))) (sss_one (ss_ret (sd_tup (sds_cons (sd_ix (sb_var 2) (sb_of (sd_op op_mod f_mod (sb_var 6) (sb_of (sd_calB o_len f_len T.b_len rfl (sbs_cons (sb_var 2) sbs_nil)))))) (sds_cons sd_str sds_nil))))) sss_nil) (sss_cons (ss_if (Γ' := [false, false, false, false, false, false, false, false, false, false]) (st_cmp (o_eq (Room.units hr)) f_eq (sb_var 5) (sb_of sd_int)) (sss_one (ss_ret (sd_tup (sds_cons (sd_op o_add f_add (sb_var 4) (sb_of (sd_op op_mod f_mod (sb_var 6) (sb_of sd_int)))) (sds_cons sd_str sds_nil))))) sss_nil) (sss_cons (ss_if (Γ' := [false, false, false, false, false, false, false, false, false, false]) (st_cmp (o_eq (Room.units hr)) f_eq (sb_var 5) (sb_of sd_int)) (sss_one (ss_ret (sd_tup (sds_cons (sd_op op_sub f_sub (sb_of (sd_un un_neg f_neg (sb_of sd_int))) (sb_of (sd_op op_mod f_mod (sb_var 6) (sb_of sd_int)))) (sds_cons sd_str sds_nil))))) sss_nil) (sss_one (ss_ret (sd_tup (sds_cons (sd_ix (sb_of (sd_lst (sds_cons sd_int (sds_cons (sd_op op_sub f_sub (sb_var 4) (sb_of sd_int)) sds_nil)))) (sb_of (sd_op op_mod f_mod (sb_var 6) (sb_of sd_int)))) (sds_cons sd_str sds_nil))))))))))))))
theorem h__law_bad (T : Tx P K mg A) : Has P w K mg base "_law_bad" (cfg A) 4 false false ["_law_kinds_here", "_law_standing", "_law_made", "_law_pick"] F__law_bad := by
  obtain ⟨f, fd, Fu, hm⟩ := T.f__law_bad
  exact ⟨f, fd, hm, Fu.kp, (Fu.binds (ps := ["_law_kinds_here", "_law_standing", "_law_made", "_law_pick"]) fun _ _ _ _ _ _ us hl => match us, hl with | [_, _, _, _], _ => rfl), d__law_bad T Fu⟩

def m__law_is_integer : Ms := (mRet (mAnd (mUn (fIsi .int) (mVar 0)) (mNot (mUn (fIsi .bool) (mVar 0)))))
def F__law_is_integer : Fn := mFn 1 1 false m__law_is_integer
theorem d__law_is_integer (T : Tx P K mg A) {f : Addr} {fd : FuncData} (Fu : Fun K "_law_is_integer" "_law_is_integer" s__law_is_integer f fd) : FnOk P w K mg base (L2N.CX P w) 1 f fd ["_law_actual"] (spF K (cfg A) false false F__law_is_integer) := by
  have hN : (["_law_actual"] : List Str).Nodup := by decide +kernel
  exact fn_sim (N := ["_law_actual"]) (ps := ["_law_actual"]) (m := m__law_is_integer) (ΓX := []) (Γ' := [false]) rfl Fu ⟨rfl, rfl, rfl, by decide +kernel, rfl, by decide +kernel, by decide +kernel⟩ fun cdv A' outer s H E hr => (sss_one (ss_ret (sd_and (sd_isi .int (sb_var 0) T.b_isinstance rfl T.b_int rfl) (sd_and1 (sd_not (sb_of (sd_isi .bool (sb_var 0) T.b_isinstance rfl T.b_bool rfl)))))))
theorem h__law_is_integer (T : Tx P K mg A) : Has P w K mg base "_law_is_integer" (cfg A) 1 false false ["_law_actual"] F__law_is_integer := by
  obtain ⟨f, fd, Fu, hm⟩ := T.f__law_is_integer
  exact ⟨f, fd, hm, Fu.kp, (Fu.binds (ps := ["_law_actual"]) fun _ _ _ _ _ _ us hl => match us, hl with | [_], _ => rfl), d__law_is_integer T Fu⟩

def L0_law_same (F : Fn) : Ms := (mIf (mNotT (mTru (mCall F (mCons (mOp fIx (mVar 0) (mVar 2)) (mCons (mOp fIx (mVar 1) (mVar 2)) mNil))))) (mRet (mC (.bl false))) mSkip)
def m__law_same (F : Fn) : Ms := (mSq (mIf (mTst (mOp fIs (mVar 1) (mC .non))) (mRet (mOp fIs (mVar 0) (mC .non))) mSkip) (mSq (mIf (mTst (mOp fIs (mVar 1) (mC (.bl true)))) (mRet (mOp fIs (mVar 0) (mC (.bl true)))) mSkip) (mSq (mIf (mTst (mOp fIs (mVar 1) (mC (.bl false)))) (mRet (mOp fIs (mVar 0) (mC (.bl false)))) mSkip) (mSq (mIf (mTru (mUn (fIsi .int) (mVar 1))) (mRet (mAnd (mCall F__law_is_integer (mCons (mVar 0) mNil)) (mOp fEq (mVar 0) (mVar 1)))) mSkip) (mSq (mIf (mTru (mUn (fIsi .str) (mVar 1))) (mRet (mAnd (mUn (fIsi .str) (mVar 0)) (mOp fEq (mVar 0) (mVar 1)))) mSkip) (mSq (mIf (mOrT (mTst (mOp fNe (mUn (fIsi .list) (mVar 1)) (mUn (fIsi .list) (mVar 0)))) (mTst (mOp fNe (mUn (fIsi .tuple) (mVar 1)) (mUn (fIsi .tuple) (mVar 0))))) (mRet (mC (.bl false))) mSkip) (mSq (mIf (mAndT (mNotT (mTru (mUn (fIsi .list) (mVar 0)))) (mNotT (mTru (mUn (fIsi .tuple) (mVar 0))))) (mRet (mC (.bl false))) mSkip) (mSq (mIf (mTst (mOp fNe (mCal kLen (mCons (mVar 0) mNil)) (mCal kLen (mCons (mVar 1) mNil)))) (mRet (mC (.bl false))) mSkip) (mSq (mFor (mRng kRng1 (mCons (mCal kLen (mCons (mVar 1) mNil)) mNil)) (tName 2) (L0_law_same F)) (mRet (mC (.bl true))))))))))))
def F__law_same : Nat → Fn
  | 0 => fun _ _ => .stuck
  | n + 1 => mFn 2 3 false (m__law_same (F__law_same n))
theorem d__law_same (T : Tx P K mg A) {f : Addr} {fd : FuncData} (Fu : Fun K "_law_same" "_law_same" s__law_same f fd) {j : Nat} {F : Fn} (ih : Has P w K mg base "_law_same" (cfg A) (j + 2) false false ["_law_actual", "_law_expected"] F) : FnOk P w K mg base (L2N.CX P w) (j + 2 + 1) f fd ["_law_actual", "_law_expected"] (spF K (cfg A) false false (mFn 2 3 false (m__law_same F))) := by
  have hN : (["_law_actual", "_law_expected", "_law_k"] : List Str).Nodup := by decide +kernel
  exact fn_sim (N := ["_law_actual", "_law_expected", "_law_k"]) (ps := ["_law_actual", "_law_expected"]) (m := m__law_same F) (ΓX := []) (Γ' := [false, false, false]) rfl Fu ⟨rfl, rfl, rfl, by decide +kernel, rfl, by decide +kernel, by decide +kernel⟩ fun cdv A' outer s H E hr => (sss_cons (ss_if (Γ' := [false, false, false]) (st_cmp o_is f_is (sb_var 1) (sb_of sd_non)) (sss_one (ss_ret (sd_cmp o_is f_is (sb_var 0) (sb_of sd_non)))) sss_nil) (sss_cons (ss_if (Γ' := [false, false, false]) (st_cmp o_is f_is (sb_var 1) (sb_of sd_bl)) (sss_one (ss_ret (sd_cmp o_is f_is (sb_var 0) (sb_of sd_bl)))) sss_nil) (sss_cons (ss_if (Γ' := [false, false, false]) (st_cmp o_is f_is (sb_var 1) (sb_of sd_bl)) (sss_one (ss_ret (sd_cmp o_is f_is (sb_var 0) (sb_of sd_bl)))) sss_nil) (sss_cons (ss_if (Γ' := [false, false, false]) (st_tru (sb_of (sd_isi .int (sb_var 1) T.b_isinstance rfl T.b_int rfl))) (sss_one (ss_ret (sd_and (sd_fn (h__law_is_integer T) (lets (L2N.takes_of rfl rfl rfl rfl)) hr (sds_cons (sd_var 0) sds_nil)) (sd_and1 (sd_cmp (o_eq (Room.units hr)) f_eq (sb_var 0) (sb_var 1)))))) sss_nil) (sss_cons (ss_if (Γ' := [false, false, false]) (st_tru (sb_of (sd_isi .str (sb_var 1) T.b_isinstance rfl T.b_str rfl))) (sss_one (ss_ret (sd_and (sd_isi .str (sb_var 0) T.b_isinstance rfl T.b_str rfl) (sd_and1 (sd_cmp (o_eq (Room.units hr)) f_eq (sb_var 0) (sb_var 1)))))) sss_nil) (sss_cons (ss_if (Γ' := [false, false, false]) (st_w (sw_or (st_cmp (o_ne (Room.units hr)) f_ne (sb_of (sd_isi .list (sb_var 1) T.b_isinstance rfl T.b_list rfl)) (sb_of (sd_isi .list (sb_var 0) T.b_isinstance rfl T.b_list rfl))) (sw_or1 (st_cmp (o_ne (Room.units hr)) f_ne (sb_of (sd_isi .tuple (sb_var 1) T.b_isinstance rfl T.b_tuple rfl)) (sb_of (sd_isi .tuple (sb_var 0) T.b_isinstance rfl T.b_tuple rfl)))))) (sss_one (ss_ret sd_bl)) sss_nil) (sss_cons (ss_if (Γ' := [false, false, false]) (st_w (sw_and (st_not (st_tru (sb_of (sd_isi .list (sb_var 0) T.b_isinstance rfl T.b_list rfl)))) (sw_and1 (st_not (st_tru (sb_of (sd_isi .tuple (sb_var 0) T.b_isinstance rfl T.b_tuple rfl))))))) (sss_one (ss_ret sd_bl)) sss_nil) (sss_cons (ss_if (Γ' := [false, false, false]) (st_cmp (o_ne (Room.units hr)) f_ne (sb_of (sd_calB o_len f_len T.b_len rfl (sbs_cons (sb_var 0) sbs_nil))) (sb_of (sd_calB o_len f_len T.b_len rfl (sbs_cons (sb_var 1) sbs_nil)))) (sss_one (ss_ret sd_bl)) sss_nil) (sss_cons (ss_for (passes_of rfl) rfl (si_range1 (sds_cons (sd_calB o_len f_len T.b_len rfl (sbs_cons (sb_var 1) sbs_nil)) sds_nil) T.b_range) (tg_name 2 hN) (sss_one (ss_if (Γ' := [false, false, false]) (st_not (st_tru (sb_of (sd_fn ih (lets (L2N.takes_of rfl rfl rfl rfl)) hr (sds_cons (sd_ix (sb_var 0) (sb_var 2)) (sds_cons (sd_ix (sb_var 1) (sb_var 2)) sds_nil)))))) (sss_one (ss_ret sd_bl)) sss_nil))) (sss_one (ss_ret sd_bl)))))))))))
theorem h__law_same (T : Tx P K mg A) : ∀ n, Has P w K mg base "_law_same" (cfg A) (n + 2) false false ["_law_actual", "_law_expected"] (F__law_same n)
  | 0 => by
    obtain ⟨f, fd, Fu, hm⟩ := T.f__law_same
    exact ⟨f, fd, hm, Fu.kp, (Fu.binds (ps := ["_law_actual", "_law_expected"]) fun _ _ _ _ _ _ us hl => match us, hl with | [_, _], _ => rfl), fn_stuck⟩
  | n + 1 => by
    obtain ⟨f, fd, Fu, hm⟩ := T.f__law_same
    have z := d__law_same T Fu (h__law_same T n)
    rw [show n + 1 + 2 = n + 2 + 1 by omega]
    exact ⟨f, fd, hm, Fu.kp, (Fu.binds (ps := ["_law_actual", "_law_expected"]) fun _ _ _ _ _ _ us hl => match us, hl with | [_, _], _ => rfl), z⟩

def m_Rowput_back : Ms := (mSq (mOwnF oPop 52 2 (mVar 0) mNil (fun d sl S => match (tName 1) d sl with | some sl' => .next sl' S | none => .stuck)) (mSq (mOwnF oPop 52 3 (mVar 0) mNil fun _ => mSkip) (mSq (mOwnF oPop 52 4 (mVar 0) mNil fun _ => mSkip) (mSetF 52 1 (mVar 0) (mCal kSorted (mCons (mOp fAdd (mFld [(52, 1)] (mVar 0)) (mLst (mCons (mVar 1) mNil))) mNil))))))
def F_Rowput_back : Fn := mFn 1 2 false m_Rowput_back
theorem d_Rowput_back (T : Tx P K mg A) {f : Addr} {fd : FuncData} (Fu : Fun K "_put_back" "Row._put_back" s_Row_put_back f fd) : FnOk P w K mg base (L2N.CX P w) 1 f fd ["self"] (spF K (cfg A) true false F_Rowput_back) := by
  have hN : (["self", "bead"] : List Str).Nodup := by decide +kernel
  exact fn_sim (N := ["self", "bead"]) (ps := ["self"]) (m := m_Rowput_back) (ΓX := []) (Γ' := [false, false]) rfl Fu ⟨rfl, rfl, rfl, by decide +kernel, rfl, by decide +kernel, by decide +kernel⟩ fun cdv A' outer s H E hr => (sss_cons (ss_fldGet0 52 2 T.cfg (pe_bm0 PySem.F.plainAttrs_list PySem.F.slot_list_pop PySem.F.type_list_pop mt_pop (pe_fld (sd_var 0) (by rfl))) oo_pop (tg_name 1 hN)) (sss_cons (ss_fldDo0 52 3 T.cfg (pe_bm0 PySem.F.plainAttrs_list PySem.F.slot_list_pop PySem.F.type_list_pop mt_pop (pe_fld (sd_var 0) (by rfl))) oo_pop) (sss_cons (ss_fldDo0 52 4 T.cfg (pe_bm0 PySem.F.plainAttrs_list PySem.F.slot_list_pop PySem.F.type_list_pop mt_pop (pe_fld (sd_var 0) (by rfl))) oo_pop) (sss_one (ss_setF 52 1 T.cfg (sd_var 0) (sd_calB cr_sortedI f_sorted T.b_sorted rfl (sbs_cons (sb_of (sd_op o_add f_add (sb_of (sd_fld [(52, 1)] T.cfg (sd_var 0))) (sb_of (sd_lst (sds_cons (sd_var 1) sds_nil))))) sbs_nil)))))))
theorem h_Rowput_back (T : Tx P K mg A) : HasM P w K mg base 52 "_put_back" (cfg A) 1 true false ["self"] F_Rowput_back := by
  obtain ⟨f, fd, Fu, hi⟩ := T.m_52__put_back
  exact ⟨f, fd, ⟨T.cl_52, hi, by show _ ∉ fl0 52; decide +kernel⟩, (Fu.binds (ps := ["self"]) fun _ _ _ _ _ _ us hl => match us, hl with | [_], _ => rfl), d_Rowput_back T Fu⟩

def L0_Row_undo : Ms := (mDo (mMeth [(52, F_Rowput_back)] (mVar 0) mNil))
def m_Row_undo : Ms := (mSq (mIf (mTst (mOp fEq (mCal kLen (mCons (mFld [(52, 5)] (mVar 0)) mNil)) (mC (.int 0)))) (mRaise 10 0 mNil) mSkip) (mSq (mOwnF oPop 52 5 (mVar 0) mNil (fun d sl S => match (tTupT [(tName 2), (tName 3)]) d sl with | some sl' => .next sl' S | none => .stuck)) (mSq (mIf (mTst (mOp fEq (mVar 2) (mC (.str "grow")))) (mSq (mOwnF oPop 52 4 (mVar 0) mNil fun _ => mSkip) (mSq (mSetF 52 0 (mVar 0) (mSl (mFld [(52, 0)] (mVar 0)) none (some (mUn fNeg (mC (.int 1)))))) (mSq (mSetF 52 1 (mVar 0) (mSl (mFld [(52, 1)] (mVar 0)) none (some (mUn fNeg (mC (.int 1)))))) (mRet (mTup (mCons (mVar 2) (mCons (mVar 3) mNil))))))) mSkip) (mSq (mIf (mTst (mOp fEq (mVar 2) (mC (.str "take")))) (mSq (mDo (mMeth [(52, F_Rowput_back)] (mVar 0) mNil)) (mRet (mTup (mCons (mVar 2) (mCons (mVar 3) mNil))))) mSkip) (mSq (mFor (mSeqA (mVar 3)) (tName 1) L0_Row_undo) (mRet (mTup (mCons (mVar 2) (mCons (mCal kList (mCons (mVar 3) mNil)) mNil)))))))))
def F_Row_undo : Fn := mFn 1 4 false m_Row_undo
theorem d_Row_undo (T : Tx P K mg A) {f : Addr} {fd : FuncData} (Fu : Fun K "undo" "Row.undo" s_Row_undo f fd) : FnOk P w K mg base (L2N.CX P w) 2 f fd ["self"] (spF K (cfg A) true false F_Row_undo) := by
  have hN : (["self", "_", "word", "what"] : List Str).Nodup := by decide +kernel
  exact fn_sim (N := ["self", "_", "word", "what"]) (ps := ["self"]) (m := m_Row_undo) (ΓX := []) (Γ' := [false, false, false, false]) rfl Fu ⟨rfl, rfl, rfl, by decide +kernel, rfl, by decide +kernel, by decide +kernel⟩ fun cdv A' outer s H E hr => (sss_cons (ss_if (Γ' := [false, false, false, false]) (st_lv (J' := ⟨_, _, false⟩) rfl rfl rfl (st_cmp (o_eq (Room.units hr)) f_eq (sb_of (sd_calB o_len f_len T.b_len rfl (sbs_cons (sb_fld [(52, 5)] T.cfg (sd_var 0)) sbs_nil))) (sb_of sd_int))) (sss_one (ss_raise0 (c := 10) rfl (L2N.takes_of rfl rfl rfl rfl) PySem.F.excBase_ValueError T.ei_10 T.c_NothingToUndo T.kx_10 (raises_own T.rx_10 T.ty_10))) sss_nil) (sss_cons (ss_fldGet0 52 5 T.cfg (pe_bm0 PySem.F.plainAttrs_list PySem.F.slot_list_pop PySem.F.type_list_pop mt_pop (pe_fld (sd_var 0) (by rfl))) oo_pop (tg_tupT K [2, 3] 2 rfl (STl.cons (tg_name 2 hN) (by decide) (STl.cons (tg_name 3 hN) (by decide) STl.nil rfl) rfl))) (sss_cons (ss_if (Γ' := [false, false, false, false]) (st_cmp (o_eq (Room.units hr)) f_eq (sb_var 2) (sb_of sd_str)) (sss_cons (ss_fldDo0 52 4 T.cfg (pe_bm0 PySem.F.plainAttrs_list PySem.F.slot_list_pop PySem.F.type_list_pop mt_pop (pe_fld (sd_var 0) (by rfl))) oo_pop) (sss_cons (ss_setF 52 0 T.cfg (sd_var 0) (sd_sl (sb_of (sd_fld [(52, 0)] T.cfg (sd_var 0))) SP.none (SP.some (sd_un un_neg f_neg (sb_of sd_int))))) (sss_cons (ss_setF 52 1 T.cfg (sd_var 0) (sd_sl (sb_of (sd_fld [(52, 1)] T.cfg (sd_var 0))) SP.none (SP.some (sd_un un_neg f_neg (sb_of sd_int))))) (sss_one (ss_ret (sd_tup (sds_cons (sd_var 2) (sds_cons (sd_var 3) sds_nil)))))))) sss_nil) (sss_cons (ss_if (Γ' := [false, false, false, false]) (st_cmp (o_eq (Room.units hr)) f_eq (sb_var 2) (sb_of sd_str)) (sss_cons (ss_expr (sd_meth0 (lets (L2N.takes_of rfl rfl rfl rfl)) (sd_var 0) (mok (h_Rowput_back T) hr))) (sss_one (ss_ret (sd_tup (sds_cons (sd_var 2) (sds_cons (sd_var 3) sds_nil)))))) sss_nil) (sss_cons (ss_for (passes_of rfl) rfl (si_seqA (sd_var 3)) (tg_name 1 hN) (sss_one (ss_expr (sd_meth0 (lets (L2N.takes_of rfl rfl rfl rfl)) (sd_var 0) (mok (h_Rowput_back T) hr))))) (sss_one (ss_ret (sd_tup (sds_cons (sd_var 2) (sds_cons (sd_calT o_list f_list T.b_list rfl (sbs_cons (sb_var 3) sbs_nil)) sds_nil))))))))))
theorem h_Row_undo (T : Tx P K mg A) : HasM P w K mg base 52 "undo" (cfg A) 2 true false ["self"] F_Row_undo := by
  obtain ⟨f, fd, Fu, hi⟩ := T.m_52_undo
  exact ⟨f, fd, ⟨T.cl_52, hi, by show _ ∉ fl0 52; decide +kernel⟩, (Fu.binds (ps := ["self"]) fun _ _ _ _ _ _ us hl => match us, hl with | [_], _ => rfl), d_Row_undo T Fu⟩

def m_Game_undo : Ms := (mSq (mPut (tName 1) (mMeth [(52, F_Row_undo)] (mFld [(56, 0)] (mVar 0)) mNil)) (mRet (mOp fIx (mVar 1) (mC (.int 1)))))
def F_Game_undo : Fn := mFn 1 2 false m_Game_undo
theorem d_Game_undo (T : Tx P K mg A) {f : Addr} {fd : FuncData} (Fu : Fun K "undo" "Game.undo" s_Game_undo f fd) : FnOk P w K mg base (L2N.CX P w) 3 f fd ["self"] (spF K (cfg A) true false F_Game_undo) := by
  have hN : (["self", "deed"] : List Str).Nodup := by decide +kernel
  exact fn_sim (N := ["self", "deed"]) (ps := ["self"]) (m := m_Game_undo) (ΓX := []) (Γ' := [false, false]) rfl Fu ⟨rfl, rfl, rfl, by decide +kernel, rfl, by decide +kernel, by decide +kernel⟩ fun cdv A' outer s H E hr => (sss_cons (ss_set 1 hN (sd_meth0 (lets (L2N.takes_of rfl rfl rfl rfl)) (sd_fld [(56, 0)] T.cfg (sd_var 0)) (mok (h_Row_undo T) hr))) (sss_one (ss_ret (sd_ix (sb_var 1) (sb_of sd_int)))))
theorem h_Game_undo (T : Tx P K mg A) : HasM P w K mg base 56 "undo" (cfg A) 3 true false ["self"] F_Game_undo := by
  obtain ⟨f, fd, Fu, hi⟩ := T.m_56_undo
  exact ⟨f, fd, ⟨T.cl_56, hi, by show _ ∉ fl0 56; decide +kernel⟩, (Fu.binds (ps := ["self"]) fun _ _ _ _ _ _ us hl => match us, hl with | [_], _ => rfl), d_Game_undo T Fu⟩

def m__law_undo : Ms := (mTry (mRet (mTup (mCons (mC (.str "undone")) (mCons (mMeth [(56, F_Game_undo)] (mVar 0) mNil) mNil)))) [⟨[(0, false), (1, false), (2, false), (5, false), (6, false), (7, false), (9, false), (10, true), (38, false)], some 1, fun x => (mRet (mTup (mCons (mC (.str "NothingToUndo")) (mCons (mAnd (mIsX 1 [(10, true)] x) (mIsX 1 [(10, true)] x)) mNil))))⟩])
def F__law_undo : Fn := mFn 1 2 false m__law_undo
theorem d__law_undo (T : Tx P K mg A) {f : Addr} {fd : FuncData} (Fu : Fun K "_law_undo" "_law_undo" s__law_undo f fd) : FnOk P w K mg base (L2N.CX P w) 4 f fd ["_law_game_here"] (spF K (cfg A) true false F__law_undo) := by
  have hN : (["_law_game_here", "e"] : List Str).Nodup := by decide +kernel
  exact fn_sim (N := ["_law_game_here", "e"]) (ps := ["_law_game_here"]) (m := m__law_undo) (ΓX := []) (Γ' := [false, false]) rfl Fu ⟨rfl, rfl, rfl, by decide +kernel, rfl, by decide +kernel, by decide +kernel⟩ fun cdv A' outer s H E hr => (sss_one (ss_try (cvs := [.ref (A 10)]) (Γh := [false, false]) (Γ' := [false, false]) (L2N.takes_of rfl rfl rfl rfl) (fun W pn xe tk hp => (sss_one (ss_ret (sd_tup (sds_cons sd_str (sds_cons (sd_meth0 (lets tk) (sd_var 0) (mok (h_Game_undo T) hr)) sds_nil)))))) (HMix.as ⟨rfl, by decide, Or.inl T.c_NothingToUndo⟩ hN (i := 1) rfl rfl (fun a oe cls d pn hz hf => (su_pss (fun x => (sss_one (ss_ret (sd_tup (sds_cons sd_str (sds_cons (sd_and (sd_isx [(10, true)] rfl (isAt_cons T.ec_10 T.is_10_MootError isAt_nil) hz.zc hf T.b_isinstance rfl (pe_own T.c_MootError) (fun _ h => h)) (sd_and1 (sd_isx [(10, true)] rfl (isAt_cons T.ec_10 T.is_10_ValueError isAt_nil) hz.zc hf T.b_isinstance rfl (pe_bltn (v := .ty "ValueError") rfl T.b_ValueError rfl rfl (by decide) (by decide)) (fun _ h => h)))) sds_nil)))))))) HMix.nil) (.cons (okT_cons (exm_of T.ec_10 T.ty_10 T.sb_0_10) (okT_cons (exm_of T.ec_10 T.ty_10 T.sb_1_10) (okT_cons (exm_of T.ec_10 T.ty_10 T.sb_2_10) (okT_cons (exm_of T.ec_10 T.ty_10 T.sb_5_10) (okT_cons (exm_of T.ec_10 T.ty_10 T.sb_6_10) (okT_cons (exm_of T.ec_10 T.ty_10 T.sb_7_10) (okT_cons (exm_of T.ec_10 T.ty_10 T.sb_9_10) (okT_cons (exm_of T.ec_10 T.ty_10 T.sb_10_10) (okT_cons (exm_of T.ec_10 T.ty_10 T.sb_38_10) okT_nil))))))))) .nil)))
theorem h__law_undo (T : Tx P K mg A) : Has P w K mg base "_law_undo" (cfg A) 4 true false ["_law_game_here"] F__law_undo := by
  obtain ⟨f, fd, Fu, hm⟩ := T.f__law_undo
  exact ⟨f, fd, hm, Fu.kp, (Fu.binds (ps := ["_law_game_here"]) fun _ _ _ _ _ _ us hl => match us, hl with | [_], _ => rfl), d__law_undo T Fu⟩

def m__law_is_undone : Ms := (mSq (mIf (mTst (mOp fEq (mCal kLen (mCons (mVar 1) mNil)) (mC (.int 0)))) (mRet (mCall (F__law_same 6) (mCons (mCall F__law_undo (mCons (mVar 0) mNil)) (mCons (mTup (mCons (mC (.str "NothingToUndo")) (mCons (mC (.bl true)) mNil))) mNil)))) mSkip) (mRet (mCall (F__law_same 6) (mCons (mCall F__law_undo (mCons (mVar 0) mNil)) (mCons (mTup (mCons (mC (.str "undone")) (mCons (mOp fIx (mVar 1) (mUn fNeg (mC (.int 1)))) mNil))) mNil)))))
def F__law_is_undone : Fn := mFn 2 2 false m__law_is_undone
theorem d__law_is_undone (T : Tx P K mg A) {f : Addr} {fd : FuncData} (Fu : Fun K "_law_is_undone" "_law_is_undone" s__law_is_undone f fd) : FnOk P w K mg base (L2N.CX P w) 9 f fd ["_law_game_here", "_law_made"] (spF K (cfg A) true false F__law_is_undone) := by
  have hN : (["_law_game_here", "_law_made"] : List Str).Nodup := by decide +kernel
  exact fn_sim (N := ["_law_game_here", "_law_made"]) (ps := ["_law_game_here", "_law_made"]) (m := m__law_is_undone) (ΓX := []) (Γ' := [false, false]) rfl Fu ⟨rfl, rfl, rfl, by decide +kernel, rfl, by decide +kernel, by decide +kernel⟩ fun cdv A' outer s H E hr => (sss_cons (ss_if (Γ' := [false, false]) (st_cmp (o_eq (Room.units hr)) f_eq (sb_of (sd_calB o_len f_len T.b_len rfl (sbs_cons (sb_var 1) sbs_nil))) (sb_of sd_int)) (sss_one (ss_ret (sd_fn (h__law_same T 6) (lets (L2N.takes_of rfl rfl rfl rfl)) hr (sds_cons (sd_fn (h__law_undo T) (lets (L2N.takes_of rfl rfl rfl rfl)) hr (sds_cons (sd_var 0) sds_nil)) (sds_cons (sd_tup (sds_cons sd_str (sds_cons sd_bl sds_nil))) sds_nil))))) sss_nil) (sss_one (ss_ret (sd_fn (h__law_same T 6) (lets (L2N.takes_of rfl rfl rfl rfl)) hr (sds_cons (sd_fn (h__law_undo T) (lets (L2N.takes_of rfl rfl rfl rfl)) hr (sds_cons (sd_var 0) sds_nil)) (sds_cons (sd_tup (sds_cons sd_str (sds_cons (sd_ix (sb_var 1) (sb_of (sd_un un_neg f_neg (sb_of sd_int)))) sds_nil))) sds_nil))))))
theorem h__law_is_undone (T : Tx P K mg A) : Has P w K mg base "_law_is_undone" (cfg A) 9 true false ["_law_game_here", "_law_made"] F__law_is_undone := by
  obtain ⟨f, fd, Fu, hm⟩ := T.f__law_is_undone
  exact ⟨f, fd, hm, Fu.kp, (Fu.binds (ps := ["_law_game_here", "_law_made"]) fun _ _ _ _ _ _ us hl => match us, hl with | [_, _], _ => rfl), d__law_is_undone T Fu⟩

def m_Row_standing : Ms := (mRet (mCal kList (mCons (mFld [(52, 1)] (mVar 0)) mNil)))
def F_Row_standing : Fn := mFn 1 1 true m_Row_standing
theorem d_Row_standing (T : Tx P K mg A) {f : Addr} {fd : FuncData} (Fu : Fun K "standing" "Row.standing" s_Row_standing f fd) : FnOk P w K mg base (L2N.CX P w) 1 f fd ["self"] (spF K (cfg A) false true F_Row_standing) := by
  have hN : (["self"] : List Str).Nodup := by decide +kernel
  exact fn_sim (N := ["self"]) (ps := ["self"]) (m := m_Row_standing) (ΓX := []) (Γ' := [false]) rfl Fu ⟨rfl, rfl, rfl, by decide +kernel, rfl, by decide +kernel, by decide +kernel⟩ fun cdv A' outer s H E hr => (sss_one (ss_retNw (sn_calT o_list fn_list T.b_list rfl (sbs_cons (sb_of (sd_fld [(52, 1)] T.cfg (sd_var 0))) sbs_nil))))
theorem h_Row_standing (T : Tx P K mg A) : HasP P w K mg base 52 "standing" (cfg A) 1 false true F_Row_standing := by
  obtain ⟨p, f, fd, Fu, hp⟩ := T.m_52_standing
  exact ⟨p, f, fd, T.cl_52, hp, (Fu.binds (ps := ["self"]) fun _ _ _ _ _ _ us hl => match us, hl with | [_], _ => rfl), d_Row_standing T Fu⟩

def m_Game_standing : Ms := (mRet (mPrp 52 F_Row_standing (mFld [(56, 0)] (mVar 0))))
def F_Game_standing : Fn := mFn 1 1 true m_Game_standing
theorem d_Game_standing (T : Tx P K mg A) {f : Addr} {fd : FuncData} (Fu : Fun K "standing" "Game.standing" s_Game_standing f fd) : FnOk P w K mg base (L2N.CX P w) 3 f fd ["self"] (spF K (cfg A) false true F_Game_standing) := by
  have hN : (["self"] : List Str).Nodup := by decide +kernel
  exact fn_sim (N := ["self"]) (ps := ["self"]) (m := m_Game_standing) (ΓX := []) (Γ' := [false]) rfl Fu ⟨rfl, rfl, rfl, by decide +kernel, rfl, by decide +kernel, by decide +kernel⟩ fun cdv A' outer s H E hr => (sss_one (ss_retNw (sn_prop (h_Row_standing T) hr (sd_fld [(56, 0)] T.cfg (sd_var 0)))))
theorem h_Game_standing (T : Tx P K mg A) : HasP P w K mg base 56 "standing" (cfg A) 3 false true F_Game_standing := by
  obtain ⟨p, f, fd, Fu, hp⟩ := T.m_56_standing
  exact ⟨p, f, fd, T.cl_56, hp, (Fu.binds (ps := ["self"]) fun _ _ _ _ _ _ us hl => match us, hl with | [_], _ => rfl), d_Game_standing T Fu⟩

def m_Rowcheck_standing : Ms := (mSq (mIf (mOrT (mTst (mOp fLt (mVar 1) (mC (.int 0)))) (mTst (mOp fGe (mVar 1) (mCal kLen (mCons (mFld [(52, 0)] (mVar 0)) mNil))))) (mRaise 5 1 (mCons (mVar 1) mNil)) mSkip) (mIf (mTst (mOp fNotIn (mVar 1) (mFld [(52, 1)] (mVar 0)))) (mRaise 6 1 (mCons (mVar 1) mNil)) mSkip))
def F_Rowcheck_standing : Fn := mFn 2 2 false m_Rowcheck_standing
theorem d_Rowcheck_standing (T : Tx P K mg A) {f : Addr} {fd : FuncData} (Fu : Fun K "_check_standing" "Row._check_standing" s_Row_check_standing f fd) : FnOk P w K mg base (L2N.CX P w) 2 f fd ["self", "bead"] (spF K (cfg A) false false F_Rowcheck_standing) := by
  have hN : (["self", "bead"] : List Str).Nodup := by decide +kernel
  exact fn_sim (N := ["self", "bead"]) (ps := ["self", "bead"]) (m := m_Rowcheck_standing) (ΓX := []) (Γ' := [false, false]) rfl Fu ⟨rfl, rfl, rfl, by decide +kernel, rfl, by decide +kernel, by decide +kernel⟩ fun cdv A' outer s H E hr => (sss_cons (ss_if (Γ' := [false, false]) (st_w (sw_or (st_cmp op_lt f_lt (sb_var 1) (sb_of sd_int)) (sw_or1 (st_cmp op_ge f_ge (sb_var 1) (sb_of (sd_calB o_len f_len T.b_len rfl (sbs_cons (sb_of (sd_fld [(52, 0)] T.cfg (sd_var 0))) sbs_nil))))))) (sss_one (ss_raise1 rfl (L2N.takes_of rfl rfl rfl rfl) T.es_5 in_bead T.c_NoSuchBead T.kx_5 (raises_own T.rx_5 T.ty_5) hr (sds_cons (sd_var 1) sds_nil))) sss_nil) (sss_one (ss_if (Γ' := [false, false]) (st_cmp o_notin f_notin (sb_var 1) (sb_of (sd_fld [(52, 1)] T.cfg (sd_var 0)))) (sss_one (ss_raise1 rfl (L2N.takes_of rfl rfl rfl rfl) T.es_6 in_bead T.c_GoneBead T.kx_6 (raises_own T.rx_6 T.ty_6) hr (sds_cons (sd_var 1) sds_nil))) sss_nil)))
theorem h_Rowcheck_standing (T : Tx P K mg A) : HasM P w K mg base 52 "_check_standing" (cfg A) 2 false false ["self", "bead"] F_Rowcheck_standing := by
  obtain ⟨f, fd, Fu, hi⟩ := T.m_52__check_standing
  exact ⟨f, fd, ⟨T.cl_52, hi, by show _ ∉ fl0 52; decide +kernel⟩, (Fu.binds (ps := ["self", "bead"]) fun _ _ _ _ _ _ us hl => match us, hl with | [_, _], _ => rfl), d_Rowcheck_standing T Fu⟩

def m_Rowcheck_inner : Ms := (mSq (mDo (mMeth [(52, F_Rowcheck_standing)] (mVar 0) (mCons (mVar 1) mNil))) (mIf (mOrT (mTst (mOp fEq (mVar 1) (mC (.int 0)))) (mTst (mOp fEq (mVar 1) (mOp fSub (mCal kLen (mCons (mFld [(52, 0)] (mVar 0)) mNil)) (mC (.int 1)))))) (mRaise 7 1 (mCons (mVar 1) mNil)) mSkip))
def F_Rowcheck_inner : Fn := mFn 2 2 false m_Rowcheck_inner
theorem d_Rowcheck_inner (T : Tx P K mg A) {f : Addr} {fd : FuncData} (Fu : Fun K "_check_inner" "Row._check_inner" s_Row_check_inner f fd) : FnOk P w K mg base (L2N.CX P w) 3 f fd ["self", "bead"] (spF K (cfg A) false false F_Rowcheck_inner) := by
  have hN : (["self", "bead"] : List Str).Nodup := by decide +kernel
  exact fn_sim (N := ["self", "bead"]) (ps := ["self", "bead"]) (m := m_Rowcheck_inner) (ΓX := []) (Γ' := [false, false]) rfl Fu ⟨rfl, rfl, rfl, by decide +kernel, rfl, by decide +kernel, by decide +kernel⟩ fun cdv A' outer s H E hr => (sss_cons (ss_expr (sd_meth (lets (L2N.takes_of rfl rfl rfl rfl)) (sd_var 0) (mok (h_Rowcheck_standing T) hr) (sds_cons (sd_var 1) sds_nil))) (sss_one (ss_if (Γ' := [false, false]) (st_w (sw_or (st_cmp (o_eq (Room.units hr)) f_eq (sb_var 1) (sb_of sd_int)) (sw_or1 (st_cmp (o_eq (Room.units hr)) f_eq (sb_var 1) (sb_of (sd_op op_sub f_sub (sb_of (sd_calB o_len f_len T.b_len rfl (sbs_cons (sb_of (sd_fld [(52, 0)] T.cfg (sd_var 0))) sbs_nil))) (sb_of sd_int))))))) (sss_one (ss_raise1 rfl (L2N.takes_of rfl rfl rfl rfl) T.es_7 in_bead T.c_EndBead T.kx_7 (raises_own T.rx_7 T.ty_7) hr (sds_cons (sd_var 1) sds_nil))) sss_nil)))
theorem h_Rowcheck_inner (T : Tx P K mg A) : HasM P w K mg base 52 "_check_inner" (cfg A) 3 false false ["self", "bead"] F_Rowcheck_inner := by
  obtain ⟨f, fd, Fu, hi⟩ := T.m_52__check_inner
  exact ⟨f, fd, ⟨T.cl_52, hi, by show _ ∉ fl0 52; decide +kernel⟩, (Fu.binds (ps := ["self", "bead"]) fun _ _ _ _ _ _ us hl => match us, hl with | [_, _], _ => rfl), d_Rowcheck_inner T Fu⟩

def m_Row_neighbours : Ms := (mSq (mDo (mMeth [(52, F_Rowcheck_standing)] (mVar 0) (mCons (mVar 1) mNil))) (mSq (mPut (tName 2) (mIdx (mFld [(52, 1)] (mVar 0)) (mVar 1))) (mSq (mPut (tName 3) (mC .non)) (mSq (mPut (tName 4) (mC .non)) (mSq (mIf (mTst (mOp fGt (mVar 2) (mC (.int 0)))) (mPut (tName 3) (mOp fIx (mFld [(52, 1)] (mVar 0)) (mOp fSub (mVar 2) (mC (.int 1))))) mSkip) (mSq (mIf (mTst (mOp fLt (mOp fAdd (mVar 2) (mC (.int 1))) (mCal kLen (mCons (mFld [(52, 1)] (mVar 0)) mNil)))) (mPut (tName 4) (mOp fIx (mFld [(52, 1)] (mVar 0)) (mOp fAdd (mVar 2) (mC (.int 1))))) mSkip) (mRet (mTup (mCons (mVar 3) (mCons (mVar 4) mNil))))))))))
def F_Row_neighbours : Fn := mFn 2 5 false m_Row_neighbours
theorem d_Row_neighbours (T : Tx P K mg A) {f : Addr} {fd : FuncData} (Fu : Fun K "neighbours" "Row.neighbours" s_Row_neighbours f fd) : FnOk P w K mg base (L2N.CX P w) 3 f fd ["self", "bead"] (spF K (cfg A) false false F_Row_neighbours) := by
  have hN : (["self", "bead", "at", "left", "right"] : List Str).Nodup := by decide +kernel
  exact fn_sim (N := ["self", "bead", "at", "left", "right"]) (ps := ["self", "bead"]) (m := m_Row_neighbours) (ΓX := []) (Γ' := [false, false, false, false, false]) rfl Fu ⟨rfl, rfl, rfl, by decide +kernel, rfl, by decide +kernel, by decide +kernel⟩ fun cdv A' outer s H E hr => (sss_cons (ss_expr (sd_meth (lets (L2N.takes_of rfl rfl rfl rfl)) (sd_var 0) (mok (h_Rowcheck_standing T) hr) (sds_cons (sd_var 1) sds_nil))) (sss_cons (ss_set 2 hN (sd_indexA (sb_of (sd_fld [(52, 1)] T.cfg (sd_var 0))) (sb_var 1))) (sss_cons (ss_set 3 hN sd_non) (sss_cons (ss_set 4 hN sd_non) (sss_cons (ss_if (Γ' := [false, false, false, false, false]) (st_cmp op_gt f_gt (sb_var 2) (sb_of sd_int)) (sss_one (ss_set 3 hN (sd_ix (sb_of (sd_fld [(52, 1)] T.cfg (sd_var 0))) (sb_of (sd_op op_sub f_sub (sb_var 2) (sb_of sd_int)))))) sss_nil) (sss_cons (ss_if (Γ' := [false, false, false, false, false]) (st_cmp op_lt f_lt (sb_of (sd_op o_add f_add (sb_var 2) (sb_of sd_int))) (sb_of (sd_calB o_len f_len T.b_len rfl (sbs_cons (sb_of (sd_fld [(52, 1)] T.cfg (sd_var 0))) sbs_nil)))) (sss_one (ss_set 4 hN (sd_ix (sb_of (sd_fld [(52, 1)] T.cfg (sd_var 0))) (sb_of (sd_op o_add f_add (sb_var 2) (sb_of sd_int)))))) sss_nil) (sss_one (ss_ret (sd_tup (sds_cons (sd_var 3) (sds_cons (sd_var 4) sds_nil)))))))))))
theorem h_Row_neighbours (T : Tx P K mg A) : HasM P w K mg base 52 "neighbours" (cfg A) 3 false false ["self", "bead"] F_Row_neighbours := by
  obtain ⟨f, fd, Fu, hi⟩ := T.m_52_neighbours
  exact ⟨f, fd, ⟨T.cl_52, hi, by show _ ∉ fl0 52; decide +kernel⟩, (Fu.binds (ps := ["self", "bead"]) fun _ _ _ _ _ _ us hl => match us, hl with | [_, _], _ => rfl), d_Row_neighbours T Fu⟩

def m_mark_of : Ms := (mSq (mIf (mTst (mOp fEq (mVar 0) (mVar 2))) (mSq (mIf (mTst (mOp fEq (mVar 1) (mVar 0))) (mRet (mC (.str "quiet"))) mSkip) (mRet (mC (.str "odd")))) mSkip) (mSq (mIf (mOrT (mTst (mOp fEq (mVar 1) (mVar 0))) (mTst (mOp fEq (mVar 1) (mVar 2)))) (mRet (mC (.str "edge"))) mSkip) (mRet (mC (.str "strife")))))
def F_mark_of : Fn := mFn 3 3 false m_mark_of
theorem d_mark_of (T : Tx P K mg A) {f : Addr} {fd : FuncData} (Fu : Fun K "mark_of" "mark_of" s_mark_of f fd) : FnOk P w K mg base (L2N.CX P w) 1 f fd ["left", "bead", "right"] (spF K (cfg A) false false F_mark_of) := by
  have hN : (["left", "bead", "right"] : List Str).Nodup := by decide +kernel
  exact fn_sim (N := ["left", "bead", "right"]) (ps := ["left", "bead", "right"]) (m := m_mark_of) (ΓX := []) (Γ' := [false, false, false]) rfl Fu ⟨rfl, rfl, rfl, by decide +kernel, rfl, by decide +kernel, by decide +kernel⟩ fun cdv A' outer s H E hr => (sss_cons (ss_if (Γ' := [false, false, false]) (st_cmp (o_eq (Room.units hr)) f_eq (sb_var 0) (sb_var 2)) (sss_cons (ss_if (Γ' := [false, false, false]) (st_cmp (o_eq (Room.units hr)) f_eq (sb_var 1) (sb_var 0)) (sss_one (ss_ret sd_str)) sss_nil) (sss_one (ss_ret sd_str))) sss_nil) (sss_cons (ss_if (Γ' := [false, false, false]) (st_w (sw_or (st_cmp (o_eq (Room.units hr)) f_eq (sb_var 1) (sb_var 0)) (sw_or1 (st_cmp (o_eq (Room.units hr)) f_eq (sb_var 1) (sb_var 2))))) (sss_one (ss_ret sd_str)) sss_nil) (sss_one (ss_ret sd_str))))
theorem h_mark_of (T : Tx P K mg A) : Has P w K mg base "mark_of" (cfg A) 1 false false ["left", "bead", "right"] F_mark_of := by
  obtain ⟨f, fd, Fu, hm⟩ := T.f_mark_of
  exact ⟨f, fd, hm, Fu.kp, (Fu.binds (ps := ["left", "bead", "right"]) fun _ _ _ _ _ _ us hl => match us, hl with | [_, _, _], _ => rfl), d_mark_of T Fu⟩

def m_Row_mark : Ms := (mSq (mDo (mMeth [(52, F_Rowcheck_inner)] (mVar 0) (mCons (mVar 1) mNil))) (mSq (mPut (tTupT [(tName 2), (tName 3)]) (mMeth [(52, F_Row_neighbours)] (mVar 0) (mCons (mVar 1) mNil))) (mRet (mCall F_mark_of (mCons (mOp fIx (mFld [(52, 0)] (mVar 0)) (mVar 2)) (mCons (mOp fIx (mFld [(52, 0)] (mVar 0)) (mVar 1)) (mCons (mOp fIx (mFld [(52, 0)] (mVar 0)) (mVar 3)) mNil)))))))
def F_Row_mark : Fn := mFn 2 4 false m_Row_mark
theorem d_Row_mark (T : Tx P K mg A) {f : Addr} {fd : FuncData} (Fu : Fun K "mark" "Row.mark" s_Row_mark f fd) : FnOk P w K mg base (L2N.CX P w) 4 f fd ["self", "bead"] (spF K (cfg A) false false F_Row_mark) := by
  have hN : (["self", "bead", "left", "right"] : List Str).Nodup := by decide +kernel
  exact fn_sim (N := ["self", "bead", "left", "right"]) (ps := ["self", "bead"]) (m := m_Row_mark) (ΓX := []) (Γ' := [false, false, false, false]) rfl Fu ⟨rfl, rfl, rfl, by decide +kernel, rfl, by decide +kernel, by decide +kernel⟩ fun cdv A' outer s H E hr => (sss_cons (ss_expr (sd_meth (lets (L2N.takes_of rfl rfl rfl rfl)) (sd_var 0) (mok (h_Rowcheck_inner T) hr) (sds_cons (sd_var 1) sds_nil))) (sss_cons (ss_asg (tg_tupT K [2, 3] 2 rfl (STl.cons (tg_name 2 hN) (by decide) (STl.cons (tg_name 3 hN) (by decide) STl.nil rfl) rfl)) (sd_meth (lets (L2N.takes_of rfl rfl rfl rfl)) (sd_var 0) (mok (h_Row_neighbours T) hr) (sds_cons (sd_var 1) sds_nil))) (sss_one (ss_ret (sd_fn (h_mark_of T) (lets (L2N.takes_of rfl rfl rfl rfl)) hr (sds_cons (sd_ix (sb_of (sd_fld [(52, 0)] T.cfg (sd_var 0))) (sb_var 2)) (sds_cons (sd_ix (sb_of (sd_fld [(52, 0)] T.cfg (sd_var 0))) (sb_var 1)) (sds_cons (sd_ix (sb_of (sd_fld [(52, 0)] T.cfg (sd_var 0))) (sb_var 3)) sds_nil))))))))
theorem h_Row_mark (T : Tx P K mg A) : HasM P w K mg base 52 "mark" (cfg A) 4 false false ["self", "bead"] F_Row_mark := by
  obtain ⟨f, fd, Fu, hi⟩ := T.m_52_mark
  exact ⟨f, fd, ⟨T.cl_52, hi, by show _ ∉ fl0 52; decide +kernel⟩, (Fu.binds (ps := ["self", "bead"]) fun _ _ _ _ _ _ us hl => match us, hl with | [_, _], _ => rfl), d_Row_mark T Fu⟩

def CT0_Game_moves : Mx Bool := (mTst (mOp fNe (mMeth [(52, F_Row_mark)] (mFld [(56, 0)] (mVar 0)) (mCons (mVar 1) mNil)) (mC (.str "quiet"))))
def CE1_Game_moves : Mx D := (mVar 1)
def m_Game_moves : Ms := (mRet (mLc (mSeqA (mSl (mPrp 52 F_Row_standing (mFld [(56, 0)] (mVar 0))) (some (mC (.int 1))) (some (mUn fNeg (mC (.int 1)))))) (tName 1) CT0_Game_moves CE1_Game_moves [1]))
def F_Game_moves : Fn := mFn 1 2 true m_Game_moves
theorem d_Game_moves (T : Tx P K mg A) {f : Addr} {fd : FuncData} (Fu : Fun K "moves" "Game.moves" s_Game_moves f fd) : FnOk P w K mg base (L2N.CX P w) 5 f fd ["self"] (spF K (cfg A) false true F_Game_moves) := by
  have hN : (["self", "bead"] : List Str).Nodup := by decide +kernel
  exact fn_sim (N := ["self", "bead"]) (ps := ["self"]) (m := m_Game_moves) (ΓX := []) (Γ' := [false, false]) rfl Fu ⟨rfl, rfl, rfl, by decide +kernel, rfl, by decide +kernel, by decide +kernel⟩ fun cdv A' outer s H E hr => (sss_one (ss_retNw (sn_lc (tt := tDb K _ _ _) (own := [("bead", 1)]) rfl hN (si_seqAB (sb_of (sd_sl (sb_of (sd_of_sn (sn_prop (h_Row_standing T) hr (sd_fld [(56, 0)] T.cfg (sd_var 0))))) (SP.some sd_int) (SP.some (sd_un un_neg f_neg (sb_of sd_int)))))) (by show BlkOk ["self", "bead"] (defScope s_Game_moves) _ _; exact ⟨rfl, by decide +kernel, by decide +kernel, by decide +kernel, by decide +kernel⟩) (fun s H C cl fp => (tg_name 1 hN)) (fun s H C cl fp => (sts_one (st_cmp (o_ne (Room.units hr)) f_ne (sb_of (sd_meth lets0 (sd_fld [(56, 0)] T.cfg (sd_var 0)) (mok (h_Row_mark T) hr) (sds_cons (sd_var 1) sds_nil))) (sb_of sd_str)))) (fun s H C cl fp => (sd_var 1)))))
theorem h_Game_moves (T : Tx P K mg A) : HasM P w K mg base 56 "moves" (cfg A) 5 false true ["self"] F_Game_moves := by
  obtain ⟨f, fd, Fu, hi⟩ := T.m_56_moves
  exact ⟨f, fd, ⟨T.cl_56, hi, by show _ ∉ fl0 56; decide +kernel⟩, (Fu.binds (ps := ["self"]) fun _ _ _ _ _ _ us hl => match us, hl with | [_], _ => rfl), d_Game_moves T Fu⟩

def m_Row_taken : Ms := (mRet (mCal kList (mCons (mFld [(52, 2)] (mVar 0)) mNil)))
def F_Row_taken : Fn := mFn 1 1 true m_Row_taken
theorem d_Row_taken (T : Tx P K mg A) {f : Addr} {fd : FuncData} (Fu : Fun K "taken" "Row.taken" s_Row_taken f fd) : FnOk P w K mg base (L2N.CX P w) 1 f fd ["self"] (spF K (cfg A) false true F_Row_taken) := by
  have hN : (["self"] : List Str).Nodup := by decide +kernel
  exact fn_sim (N := ["self"]) (ps := ["self"]) (m := m_Row_taken) (ΓX := []) (Γ' := [false]) rfl Fu ⟨rfl, rfl, rfl, by decide +kernel, rfl, by decide +kernel, by decide +kernel⟩ fun cdv A' outer s H E hr => (sss_one (ss_retNw (sn_calT o_list fn_list T.b_list rfl (sbs_cons (sb_fld [(52, 2)] T.cfg (sd_var 0)) sbs_nil))))
theorem h_Row_taken (T : Tx P K mg A) : HasP P w K mg base 52 "taken" (cfg A) 1 false true F_Row_taken := by
  obtain ⟨p, f, fd, Fu, hp⟩ := T.m_52_taken
  exact ⟨p, f, fd, T.cl_52, hp, (Fu.binds (ps := ["self"]) fun _ _ _ _ _ _ us hl => match us, hl with | [_], _ => rfl), d_Row_taken T Fu⟩

def m_Game_turn : Ms := (mRet (mOp fMod (mCal kLen (mCons (mPrp 52 F_Row_taken (mFld [(56, 0)] (mVar 0))) mNil)) (mC (.int 2))))
def F_Game_turn : Fn := mFn 1 1 false m_Game_turn
theorem d_Game_turn (T : Tx P K mg A) {f : Addr} {fd : FuncData} (Fu : Fun K "turn" "Game.turn" s_Game_turn f fd) : FnOk P w K mg base (L2N.CX P w) 3 f fd ["self"] (spF K (cfg A) false false F_Game_turn) := by
  have hN : (["self"] : List Str).Nodup := by decide +kernel
  exact fn_sim (N := ["self"]) (ps := ["self"]) (m := m_Game_turn) (ΓX := []) (Γ' := [false]) rfl Fu ⟨rfl, rfl, rfl, by decide +kernel, rfl, by decide +kernel, by decide +kernel⟩ fun cdv A' outer s H E hr => (sss_one (ss_ret (sd_op op_mod f_mod (sb_of (sd_calB o_len f_len T.b_len rfl (sbs_cons (sb_of (sd_of_sn (sn_prop (h_Row_taken T) hr (sd_fld [(56, 0)] T.cfg (sd_var 0))))) sbs_nil))) (sb_of sd_int))))
theorem h_Game_turn (T : Tx P K mg A) : HasP P w K mg base 56 "turn" (cfg A) 3 false false F_Game_turn := by
  obtain ⟨p, f, fd, Fu, hp⟩ := T.m_56_turn
  exact ⟨p, f, fd, T.cl_56, hp, (Fu.binds (ps := ["self"]) fun _ _ _ _ _ _ us hl => match us, hl with | [_], _ => rfl), d_Game_turn T Fu⟩

def m_Game_is_over : Ms := (mRet (mOp fEq (mCal kLen (mCons (mMeth [(56, F_Game_moves)] (mVar 0) mNil) mNil)) (mC (.int 0))))
def F_Game_is_over : Fn := mFn 1 1 false m_Game_is_over
theorem d_Game_is_over (T : Tx P K mg A) {f : Addr} {fd : FuncData} (Fu : Fun K "is_over" "Game.is_over" s_Game_is_over f fd) : FnOk P w K mg base (L2N.CX P w) 6 f fd ["self"] (spF K (cfg A) false false F_Game_is_over) := by
  have hN : (["self"] : List Str).Nodup := by decide +kernel
  exact fn_sim (N := ["self"]) (ps := ["self"]) (m := m_Game_is_over) (ΓX := []) (Γ' := [false]) rfl Fu ⟨rfl, rfl, rfl, by decide +kernel, rfl, by decide +kernel, by decide +kernel⟩ fun cdv A' outer s H E hr => (sss_one (ss_ret (sd_cmp (o_eq (Room.units hr)) f_eq (sb_of (sd_calB o_len f_len T.b_len rfl (sbs_cons (sb_of (sd_of_sn (sn_meth0 (lets (L2N.takes_of rfl rfl rfl rfl)) (sd_var 0) (mok (h_Game_moves T) hr)))) sbs_nil))) (sb_of sd_int))))
theorem h_Game_is_over (T : Tx P K mg A) : HasM P w K mg base 56 "is_over" (cfg A) 6 false false ["self"] F_Game_is_over := by
  obtain ⟨f, fd, Fu, hi⟩ := T.m_56_is_over
  exact ⟨f, fd, ⟨T.cl_56, hi, by show _ ∉ fl0 56; decide +kernel⟩, (Fu.binds (ps := ["self"]) fun _ _ _ _ _ _ us hl => match us, hl with | [_], _ => rfl), d_Game_is_over T Fu⟩

def m__law_is_told : Ms := (mSq (mPut (tName 4) (mCall F__law_allowed (mCons (mVar 1) (mCons (mVar 2) mNil)))) (mSq (mIf (mNotT (mTru (mCall (F__law_same 6) (mCons (mPrp 56 F_Game_turn (mVar 0)) (mCons (mOp fMod (mCal kIntS (mCons (mVar 3) mNil)) (mC (.int 2))) mNil))))) (mRet (mC (.bl false))) mSkip) (mSq (mOwn 5 (mPrp 56 F_Game_standing (mVar 0))) (mSq (mIf (mNotT (mTru (mCallV (F__law_same 6) (mCons (mVar 5) (mCons (mVar 2) mNil))))) (mRet (mC (.bl false))) mSkip) (mSq (mOwnS oAppend 5 (mCons (mC (.int 99)) mNil) fun _ => mSkip) (mSq (mIf (mNotT (mTru (mCall (F__law_same 6) (mCons (mPrp 56 F_Game_standing (mVar 0)) (mCons (mVar 2) mNil))))) (mRet (mC (.bl false))) mSkip) (mSq (mOwn 5 (mMeth [(56, F_Game_moves)] (mVar 0) mNil)) (mSq (mIf (mNotT (mTru (mCallV (F__law_same 6) (mCons (mVar 5) (mCons (mVar 4) mNil))))) (mRet (mC (.bl false))) mSkip) (mSq (mOwnS oAppend 5 (mCons (mC (.int 99)) mNil) fun _ => mSkip) (mRet (mAnd (mCall (F__law_same 6) (mCons (mMeth [(56, F_Game_moves)] (mVar 0) mNil) (mCons (mVar 4) mNil))) (mCall (F__law_same 6) (mCons (mMeth [(56, F_Game_is_over)] (mVar 0) mNil) (mCons (mOp fEq (mCal kLen (mCons (mVar 4) mNil)) (mC (.int 0))) mNil))))))))))))))
def F__law_is_told : Fn := mFn 4 6 false m__law_is_told
theorem d__law_is_told (T : Tx P K mg A) {f : Addr} {fd : FuncData} (Fu : Fun K "_law_is_told" "_law_is_told" s__law_is_told f fd) : FnOk P w K mg base (L2N.CX P w) 9 f fd ["_law_game_here", "_law_kinds_here", "_law_standing", "_law_count"] (spF K (cfg A) false false F__law_is_told) := by
  have hN : (["_law_game_here", "_law_kinds_here", "_law_standing", "_law_count", "_law_allowed_here", "_law_told"] : List Str).Nodup := by decide +kernel
  exact fn_sim (N := ["_law_game_here", "_law_kinds_here", "_law_standing", "_law_count", "_law_allowed_here", "_law_told"]) (ps := ["_law_game_here", "_law_kinds_here", "_law_standing", "_law_count"]) (m := m__law_is_told) (ΓX := []) (Γ' := [false, false, false, false, false, true]) rfl Fu ⟨rfl, rfl, rfl, by decide +kernel, rfl, by decide +kernel, by decide +kernel⟩ fun cdv A' outer s H E hr => (sss_cons (ss_set 4 hN (sd_fn (h__law_allowed T) (lets (L2N.takes_of rfl rfl rfl rfl)) hr (sds_cons (sd_var 1) (sds_cons (sd_var 2) sds_nil)))) (sss_cons (ss_if (Γ' := [false, false, false, false, false, false]) (st_not (st_tru (sb_of (sd_fn (h__law_same T 6) (lets (L2N.takes_of rfl rfl rfl rfl)) hr (sds_cons (sd_prop (h_Game_turn T) hr (sd_var 0)) (sds_cons (sd_op op_mod f_mod (sb_of (sd_calT o_intS f_intS T.b_int rfl (sbs_cons (sb_var 3) sbs_nil))) (sb_of sd_int)) sds_nil)))))) (sss_one (ss_ret sd_bl)) sss_nil) (sss_cons (ss_own 5 hN (sn_prop (h_Game_standing T) hr (sd_var 0))) (sss_cons (ss_if (Γ' := [false, false, false, false, false, true]) (st_not (st_tru (sb_of (sd_fnV (h__law_same T 6) (lets (L2N.takes_of rfl rfl rfl rfl)) hr (svs_own 5 (svs_cons (sd_var 2) svs_nil)))))) (sss_one (ss_ret sd_bl)) sss_nil) (sss_cons (ss_ownDo 5 (pe_bm PySem.F.plainAttrs_list PySem.F.slot_list_append PySem.F.type_list_append mt_append (pv 5) (sds_cons sd_int sds_nil)) oo_append) (sss_cons (ss_if (Γ' := [false, false, false, false, false, true]) (st_not (st_tru (sb_of (sd_fn (h__law_same T 6) (lets (L2N.takes_of rfl rfl rfl rfl)) hr (sds_cons (sd_of_sn (sn_prop (h_Game_standing T) hr (sd_var 0))) (sds_cons (sd_var 2) sds_nil)))))) (sss_one (ss_ret sd_bl)) sss_nil) (sss_cons (ss_own 5 hN (sn_meth0 (lets (L2N.takes_of rfl rfl rfl rfl)) (sd_var 0) (mok (h_Game_moves T) hr))) (sss_cons (ss_if (Γ' := [false, false, false, false, false, true]) (st_not (st_tru (sb_of (sd_fnV (h__law_same T 6) (lets (L2N.takes_of rfl rfl rfl rfl)) hr (svs_own 5 (svs_cons (sd_var 4) svs_nil)))))) (sss_one (ss_ret sd_bl)) sss_nil) (sss_cons (ss_ownDo 5 (pe_bm PySem.F.plainAttrs_list PySem.F.slot_list_append PySem.F.type_list_append mt_append (pv 5) (sds_cons sd_int sds_nil)) oo_append) (sss_one (ss_ret (sd_and (sd_fn (h__law_same T 6) (lets (L2N.takes_of rfl rfl rfl rfl)) hr (sds_cons (sd_of_sn (sn_meth0 (lets (L2N.takes_of rfl rfl rfl rfl)) (sd_var 0) (mok (h_Game_moves T) hr))) (sds_cons (sd_var 4) sds_nil))) (sd_and1 (sd_fn (h__law_same T 6) (lets (L2N.takes_of rfl rfl rfl rfl)) hr (sds_cons (sd_meth0 (lets (L2N.takes_of rfl rfl rfl rfl)) (sd_var 0) (mok (h_Game_is_over T) hr)) (sds_cons (sd_cmp (o_eq (Room.units hr)) f_eq (sb_of (sd_calB o_len f_len T.b_len rfl (sbs_cons (sb_var 4) sbs_nil))) (sb_of sd_int)) sds_nil))))))))))))))))
theorem h__law_is_told (T : Tx P K mg A) : Has P w K mg base "_law_is_told" (cfg A) 9 false false ["_law_game_here", "_law_kinds_here", "_law_standing", "_law_count"] F__law_is_told := by
  obtain ⟨f, fd, Fu, hm⟩ := T.f__law_is_told
  exact ⟨f, fd, hm, Fu.kp, (Fu.binds (ps := ["_law_game_here", "_law_kinds_here", "_law_standing", "_law_count"]) fun _ _ _ _ _ _ us hl => match us, hl with | [_, _, _, _], _ => rfl), d__law_is_told T Fu⟩

def CT0_law_all_undone : Mx Bool := (mTst (mOp fNotIn (mVar 5) (mVar 2)))
def CE1_law_all_undone : Mx D := (mVar 5)
def L2_law_all_undone : Ms := (mSq (mPut (tName 5) (mOp fIx (mVar 2) (mOp fSub (mOp fSub (mCal kLen (mCons (mVar 2) mNil)) (mC (.int 1))) (mVar 4)))) (mSq (mIf (mNotT (mTru (mCall (F__law_same 6) (mCons (mCall F__law_undo (mCons (mVar 0) mNil)) (mCons (mTup (mCons (mC (.str "undone")) (mCons (mVar 5) mNil))) mNil))))) (mRet (mC (.bl false))) mSkip) (mSq (mPut (tName 3) (mCal kSorted (mCons (mOp fAdd (mVar 3) (mLst (mCons (mVar 5) mNil))) mNil))) (mIf (mNotT (mTru (mCall (F__law_same 6) (mCons (mPrp 56 F_Game_standing (mVar 0)) (mCons (mVar 3) mNil))))) (mRet (mC (.bl false))) mSkip))))
def m__law_all_undone : Ms := (mSq (mPut (tName 3) (mLc (mRng kRng1 (mCons (mCal kLen (mCons (mVar 1) mNil)) mNil)) (tName 5) CT0_law_all_undone CE1_law_all_undone [5])) (mSq (mFor (mRng kRng1 (mCons (mCal kLen (mCons (mVar 2) mNil)) mNil)) (tName 4) L2_law_all_undone) (mRet (mAnd (mCall F__law_is_undone (mCons (mVar 0) (mCons (mLst mNil) mNil))) (mCall F__law_is_told (mCons (mVar 0) (mCons (mVar 1) (mCons (mLRg kR1 (mCons (mCal kLen (mCons (mVar 1) mNil)) mNil)) (mCons (mC (.int 0)) mNil)))))))))
def F__law_all_undone : Fn := mFn 3 6 false m__law_all_undone
theorem d__law_all_undone (T : Tx P K mg A) {f : Addr} {fd : FuncData} (Fu : Fun K "_law_all_undone" "_law_all_undone" s__law_all_undone f fd) : FnOk P w K mg base (L2N.CX P w) 10 f fd ["_law_game_here", "_law_kinds_here", "_law_made"] (spF K (cfg A) true false F__law_all_undone) := by
  have hN : (["_law_game_here", "_law_kinds_here", "_law_made", "_law_standing", "_law_k", "_law_bead"] : List Str).Nodup := by decide +kernel
  exact fn_sim (N := ["_law_game_here", "_law_kinds_here", "_law_made", "_law_standing", "_law_k", "_law_bead"]) (ps := ["_law_game_here", "_law_kinds_here", "_law_made"]) (m := m__law_all_undone) (ΓX := []) (Γ' := [false, false, false, false, false, false]) rfl Fu ⟨rfl, rfl, rfl, by decide +kernel, rfl, by decide +kernel, by decide +kernel⟩ fun cdv A' outer s H E hr => (sss_cons (ss_setLc 3 hN (tt := tDb K _ _ _) (own := [("_law_bead", 5)]) rfl (si_range1 (sds_cons (sd_calB o_len f_len T.b_len rfl (sbs_cons (sb_var 1) sbs_nil)) sds_nil) T.b_range) (by show BlkOk ["_law_game_here", "_law_kinds_here", "_law_made", "_law_standing", "_law_k", "_law_bead"] (defScope s__law_all_undone) _ _; exact ⟨rfl, by decide +kernel, by decide +kernel, by decide +kernel, by decide +kernel⟩) (fun s H C cl fp => (tg_name 5 hN)) (fun s H C cl fp => (sts_one (st_cmp o_notin f_notin (sb_var 5) (sb_var 2)))) (fun s H C cl fp => (sd_var 5))) (sss_cons (ss_for (passes_of rfl) rfl (si_range1 (sds_cons (sd_calB o_len f_len T.b_len rfl (sbs_cons (sb_var 2) sbs_nil)) sds_nil) T.b_range) (tg_name 4 hN) (sss_cons (ss_set 5 hN (sd_ix (sb_var 2) (sb_of (sd_op op_sub f_sub (sb_of (sd_op op_sub f_sub (sb_of (sd_calB o_len f_len T.b_len rfl (sbs_cons (sb_var 2) sbs_nil))) (sb_of sd_int))) (sb_var 4))))) (sss_cons (ss_if (Γ' := [false, false, false, false, false, false]) (st_not (st_tru (sb_of (sd_fn (h__law_same T 6) (lets (L2N.takes_of rfl rfl rfl rfl)) hr (sds_cons (sd_fn (h__law_undo T) (lets (L2N.takes_of rfl rfl rfl rfl)) hr (sds_cons (sd_var 0) sds_nil)) (sds_cons (sd_tup (sds_cons sd_str (sds_cons (sd_var 5) sds_nil))) sds_nil)))))) (sss_one (ss_ret sd_bl)) sss_nil) (sss_cons (ss_set 3 hN (sd_calB cr_sortedI f_sorted T.b_sorted rfl (sbs_cons (sb_of (sd_op o_add f_add (sb_var 3) (sb_of (sd_lst (sds_cons (sd_var 5) sds_nil))))) sbs_nil))) (sss_one (ss_if (Γ' := [false, false, false, false, false, false]) (st_not (st_tru (sb_of (sd_fn (h__law_same T 6) (lets (L2N.takes_of rfl rfl rfl rfl)) hr (sds_cons (sd_of_sn (sn_prop (h_Game_standing T) hr (sd_var 0))) (sds_cons (sd_var 3) sds_nil)))))) (sss_one (ss_ret sd_bl)) sss_nil)))))) (sss_one (ss_ret (sd_and (sd_fn (h__law_is_undone T) (lets (L2N.takes_of rfl rfl rfl rfl)) hr (sds_cons (sd_var 0) (sds_cons (sd_lst sds_nil) sds_nil))) (sd_and1 (sd_fn (h__law_is_told T) (lets (L2N.takes_of rfl rfl rfl rfl)) hr (sds_cons (sd_var 0) (sds_cons (sd_var 1) (sds_cons (sd_listR1 rfl T.b_list T.b_range (sd_calB o_len f_len T.b_len rfl (sbs_cons (sb_var 1) sbs_nil))) (sds_cons sd_int sds_nil)))))))))))
theorem h__law_all_undone (T : Tx P K mg A) : Has P w K mg base "_law_all_undone" (cfg A) 10 true false ["_law_game_here", "_law_kinds_here", "_law_made"] F__law_all_undone := by
  obtain ⟨f, fd, Fu, hm⟩ := T.f__law_all_undone
  exact ⟨f, fd, hm, Fu.kp, (Fu.binds (ps := ["_law_game_here", "_law_kinds_here", "_law_made"]) fun _ _ _ _ _ _ us hl => match us, hl with | [_, _, _], _ => rfl), d__law_all_undone T Fu⟩

def CT0_Row__take_out : Mx Bool := (mTst (mOp fNe (mVar 3) (mVar 1)))
def CE1_Row__take_out : Mx D := (mVar 3)
def m_Rowtake_out : Ms := (mSq (mPut (tName 2) (mMeth [(52, F_Row_mark)] (mVar 0) (mCons (mVar 1) mNil))) (mSq (mOwnF oAppend 52 4 (mVar 0) (mCons (mMeth [(52, F_Row_neighbours)] (mVar 0) (mCons (mVar 1) mNil)) mNil) fun _ => mSkip) (mSq (mOwnF oAppend 52 3 (mVar 0) (mCons (mVar 2) mNil) fun _ => mSkip) (mSq (mOwnF oAppend 52 2 (mVar 0) (mCons (mVar 1) mNil) fun _ => mSkip) (mSq (mSetF 52 1 (mVar 0) (mLc (mSeqA (mFld [(52, 1)] (mVar 0))) (tName 3) CT0_Row__take_out CE1_Row__take_out [3])) (mRet (mVar 2)))))))
def F_Rowtake_out : Fn := mFn 2 4 false m_Rowtake_out
theorem d_Rowtake_out (T : Tx P K mg A) {f : Addr} {fd : FuncData} (Fu : Fun K "_take_out" "Row._take_out" s_Row_take_out f fd) : FnOk P w K mg base (L2N.CX P w) 5 f fd ["self", "bead"] (spF K (cfg A) true false F_Rowtake_out) := by
  have hN : (["self", "bead", "mark", "other"] : List Str).Nodup := by decide +kernel
  exact fn_sim (N := ["self", "bead", "mark", "other"]) (ps := ["self", "bead"]) (m := m_Rowtake_out) (ΓX := []) (Γ' := [false, false, false, false]) rfl Fu ⟨rfl, rfl, rfl, by decide +kernel, rfl, by decide +kernel, by decide +kernel⟩ fun cdv A' outer s H E hr => (sss_cons (ss_set 2 hN (sd_meth (lets (L2N.takes_of rfl rfl rfl rfl)) (sd_var 0) (mok (h_Row_mark T) hr) (sds_cons (sd_var 1) sds_nil))) (sss_cons (ss_fldDo 52 4 T.cfg (pe_bm PySem.F.plainAttrs_list PySem.F.slot_list_append PySem.F.type_list_append mt_append (pe_fld (sd_var 0) (by rfl)) (sds_cons (sd_meth (lets (L2N.takes_of rfl rfl rfl rfl)) (sd_var 0) (mok (h_Row_neighbours T) hr) (sds_cons (sd_var 1) sds_nil)) sds_nil)) oo_append) (sss_cons (ss_fldDo 52 3 T.cfg (pe_bm PySem.F.plainAttrs_list PySem.F.slot_list_append PySem.F.type_list_append mt_append (pe_fld (sd_var 0) (by rfl)) (sds_cons (sd_var 2) sds_nil)) oo_append) (sss_cons (ss_fldDo 52 2 T.cfg (pe_bm PySem.F.plainAttrs_list PySem.F.slot_list_append PySem.F.type_list_append mt_append (pe_fld (sd_var 0) (by rfl)) (sds_cons (sd_var 1) sds_nil)) oo_append) (sss_cons (ss_setF 52 1 T.cfg (sd_var 0) (sd_lc (tt := tDb K _ _ _) (own := [("other", 3)]) rfl hN (si_seqAB (sb_of (sd_fld [(52, 1)] T.cfg (sd_var 0)))) (by show BlkOk ["self", "bead", "mark", "other"] (defScope s_Row_take_out) _ _; exact ⟨rfl, by decide +kernel, by decide +kernel, by decide +kernel, by decide +kernel⟩) (fun s H C cl fp => (tg_name 3 hN)) (fun s H C cl fp => (sts_one (st_cmp (o_ne (Room.units hr)) f_ne (sb_var 3) (sb_var 1)))) (fun s H C cl fp => (sd_var 3)))) (sss_one (ss_ret (sd_var 2))))))))
theorem h_Rowtake_out (T : Tx P K mg A) : HasM P w K mg base 52 "_take_out" (cfg A) 5 true false ["self", "bead"] F_Rowtake_out := by
  obtain ⟨f, fd, Fu, hi⟩ := T.m_52__take_out
  exact ⟨f, fd, ⟨T.cl_52, hi, by show _ ∉ fl0 52; decide +kernel⟩, (Fu.binds (ps := ["self", "bead"]) fun _ _ _ _ _ _ us hl => match us, hl with | [_, _], _ => rfl), d_Rowtake_out T Fu⟩

def m_Row_take : Ms := (mSq (mPut (tName 2) (mMeth [(52, F_Rowtake_out)] (mVar 0) (mCons (mVar 1) mNil))) (mSq (mOwnF oAppend 52 5 (mVar 0) (mCons (mTup (mCons (mC (.str "take")) (mCons (mVar 1) mNil))) mNil) fun _ => mSkip) (mRet (mVar 2))))
def F_Row_take : Fn := mFn 2 3 false m_Row_take
theorem d_Row_take (T : Tx P K mg A) {f : Addr} {fd : FuncData} (Fu : Fun K "take" "Row.take" s_Row_take f fd) : FnOk P w K mg base (L2N.CX P w) 6 f fd ["self", "bead"] (spF K (cfg A) true false F_Row_take) := by
  have hN : (["self", "bead", "mark"] : List Str).Nodup := by decide +kernel
  exact fn_sim (N := ["self", "bead", "mark"]) (ps := ["self", "bead"]) (m := m_Row_take) (ΓX := []) (Γ' := [false, false, false]) rfl Fu ⟨rfl, rfl, rfl, by decide +kernel, rfl, by decide +kernel, by decide +kernel⟩ fun cdv A' outer s H E hr => (sss_cons (ss_set 2 hN (sd_meth (lets (L2N.takes_of rfl rfl rfl rfl)) (sd_var 0) (mok (h_Rowtake_out T) hr) (sds_cons (sd_var 1) sds_nil))) (sss_cons (ss_fldDo 52 5 T.cfg (pe_bm PySem.F.plainAttrs_list PySem.F.slot_list_append PySem.F.type_list_append mt_append (pe_fld (sd_var 0) (by rfl)) (sds_cons (sd_tup (sds_cons sd_str (sds_cons (sd_var 1) sds_nil))) sds_nil)) oo_append) (sss_one (ss_ret (sd_var 2)))))
theorem h_Row_take (T : Tx P K mg A) : HasM P w K mg base 52 "take" (cfg A) 6 true false ["self", "bead"] F_Row_take := by
  obtain ⟨f, fd, Fu, hi⟩ := T.m_52_take
  exact ⟨f, fd, ⟨T.cl_52, hi, by show _ ∉ fl0 52; decide +kernel⟩, (Fu.binds (ps := ["self", "bead"]) fun _ _ _ _ _ _ us hl => match us, hl with | [_, _], _ => rfl), d_Row_take T Fu⟩

def m_Game_move : Ms := (mSq (mIf (mTst (mOp fEq (mMeth [(52, F_Row_mark)] (mFld [(56, 0)] (mVar 0)) (mCons (mVar 1) mNil)) (mC (.str "quiet")))) (mRaise 38 1 (mCons (mVar 1) mNil)) mSkip) (mRet (mMeth [(52, F_Row_take)] (mFld [(56, 0)] (mVar 0)) (mCons (mVar 1) mNil))))
def F_Game_move : Fn := mFn 2 2 false m_Game_move
theorem d_Game_move (T : Tx P K mg A) {f : Addr} {fd : FuncData} (Fu : Fun K "move" "Game.move" s_Game_move f fd) : FnOk P w K mg base (L2N.CX P w) 7 f fd ["self", "bead"] (spF K (cfg A) true false F_Game_move) := by
  have hN : (["self", "bead"] : List Str).Nodup := by decide +kernel
  exact fn_sim (N := ["self", "bead"]) (ps := ["self", "bead"]) (m := m_Game_move) (ΓX := []) (Γ' := [false, false]) rfl Fu ⟨rfl, rfl, rfl, by decide +kernel, rfl, by decide +kernel, by decide +kernel⟩ fun cdv A' outer s H E hr => (sss_cons (ss_if (Γ' := [false, false]) (st_cmp (o_eq (Room.units hr)) f_eq (sb_of (sd_meth (lets (L2N.takes_of rfl rfl rfl rfl)) (sd_fld [(56, 0)] T.cfg (sd_var 0)) (mok (h_Row_mark T) hr) (sds_cons (sd_var 1) sds_nil))) (sb_of sd_str)) (sss_one (ss_raise1 rfl (L2N.takes_of rfl rfl rfl rfl) T.es_38 in_bead T.c_QuietMove T.kx_38 (raises_own T.rx_38 T.ty_38) hr (sds_cons (sd_var 1) sds_nil))) sss_nil) (sss_one (ss_ret (sd_meth (lets (L2N.takes_of rfl rfl rfl rfl)) (sd_fld [(56, 0)] T.cfg (sd_var 0)) (mok (h_Row_take T) hr) (sds_cons (sd_var 1) sds_nil)))))
theorem h_Game_move (T : Tx P K mg A) : HasM P w K mg base 56 "move" (cfg A) 7 true false ["self", "bead"] F_Game_move := by
  obtain ⟨f, fd, Fu, hi⟩ := T.m_56_move
  exact ⟨f, fd, ⟨T.cl_56, hi, by show _ ∉ fl0 56; decide +kernel⟩, (Fu.binds (ps := ["self", "bead"]) fun _ _ _ _ _ _ us hl => match us, hl with | [_, _], _ => rfl), d_Game_move T Fu⟩

def m__law_move : Ms := (mTry (mRet (mTup (mCons (mC (.str "moved")) (mCons (mMeth [(56, F_Game_move)] (mVar 0) (mCons (mVar 1) mNil)) mNil)))) [⟨[(0, false), (1, false), (2, false), (5, true), (6, false), (7, false), (9, false), (10, false), (38, false)], some 2, fun x => (mRet (mTup (mCons (mC (.str "NoSuchBead")) (mCons (mXf 2 [(5, 0)] x) (mCons (mAnd (mIsX 2 [(5, true)] x) (mIsX 2 [(5, true)] x)) mNil)))))⟩, ⟨[(0, false), (1, false), (2, false), (5, false), (6, true), (7, false), (9, false), (10, false), (38, false)], some 2, fun x => (mRet (mTup (mCons (mC (.str "GoneBead")) (mCons (mXf 2 [(6, 0)] x) (mCons (mAnd (mIsX 2 [(6, true)] x) (mIsX 2 [(6, true)] x)) mNil)))))⟩, ⟨[(0, false), (1, false), (2, false), (5, false), (6, false), (7, true), (9, false), (10, false), (38, false)], some 2, fun x => (mRet (mTup (mCons (mC (.str "EndBead")) (mCons (mXf 2 [(7, 0)] x) (mCons (mAnd (mIsX 2 [(7, true)] x) (mNot (mIsX 2 [(7, false)] x))) mNil)))))⟩, ⟨[(0, false), (1, false), (2, false), (5, false), (6, false), (7, false), (9, false), (10, false), (38, true)], some 2, fun x => (mRet (mTup (mCons (mC (.str "QuietMove")) (mCons (mXf 2 [(38, 0)] x) (mCons (mAnd (mIsX 2 [(38, true)] x) (mIsX 2 [(38, true)] x)) mNil)))))⟩])
def F__law_move : Fn := mFn 2 3 false m__law_move
theorem d__law_move (T : Tx P K mg A) {f : Addr} {fd : FuncData} (Fu : Fun K "_law_move" "_law_move" s__law_move f fd) : FnOk P w K mg base (L2N.CX P w) 8 f fd ["_law_game_here", "_law_bead"] (spF K (cfg A) true false F__law_move) := by
  have hN : (["_law_game_here", "_law_bead", "e"] : List Str).Nodup := by decide +kernel
  exact fn_sim (N := ["_law_game_here", "_law_bead", "e"]) (ps := ["_law_game_here", "_law_bead"]) (m := m__law_move) (ΓX := []) (Γ' := [false, false, false]) rfl Fu ⟨rfl, rfl, rfl, by decide +kernel, rfl, by decide +kernel, by decide +kernel⟩ fun cdv A' outer s H E hr => (sss_one (ss_try (cvs := [.ref (A 5), .ref (A 6), .ref (A 7), .ref (A 38)]) (Γh := [false, false, false]) (Γ' := [false, false, false]) (L2N.takes_of rfl rfl rfl rfl) (fun W pn xe tk hp => (sss_one (ss_ret (sd_tup (sds_cons sd_str (sds_cons (sd_meth (lets tk) (sd_var 0) (mok (h_Game_move T) hr) (sds_cons (sd_var 1) sds_nil)) sds_nil)))))) (HMix.as ⟨rfl, by decide, Or.inl T.c_NoSuchBead⟩ hN (i := 2) rfl rfl (fun a oe cls d pn hz hf => (su_pss (fun x => (sss_one (ss_ret (sd_tup (sds_cons sd_str (sds_cons (sd_xf [(5, 0)] rfl (xfAt_cons rfl T.xf_5 T.nf_5_bead xfAt_nil) hz.zc hf) (sds_cons (sd_and (sd_isx [(5, true)] rfl (isAt_cons T.ec_5 T.is_5_MootError isAt_nil) hz.zc hf T.b_isinstance rfl (pe_own T.c_MootError) (fun _ h => h)) (sd_and1 (sd_isx [(5, true)] rfl (isAt_cons T.ec_5 T.is_5_ValueError isAt_nil) hz.zc hf T.b_isinstance rfl (pe_bltn (v := .ty "ValueError") rfl T.b_ValueError rfl rfl (by decide) (by decide)) (fun _ h => h)))) sds_nil))))))))) (HMix.as ⟨rfl, by decide, Or.inl T.c_GoneBead⟩ hN (i := 2) rfl rfl (fun a oe cls d pn hz hf => (su_pss (fun x => (sss_one (ss_ret (sd_tup (sds_cons sd_str (sds_cons (sd_xf [(6, 0)] rfl (xfAt_cons rfl T.xf_6 T.nf_6_bead xfAt_nil) hz.zc hf) (sds_cons (sd_and (sd_isx [(6, true)] rfl (isAt_cons T.ec_6 T.is_6_MootError isAt_nil) hz.zc hf T.b_isinstance rfl (pe_own T.c_MootError) (fun _ h => h)) (sd_and1 (sd_isx [(6, true)] rfl (isAt_cons T.ec_6 T.is_6_ValueError isAt_nil) hz.zc hf T.b_isinstance rfl (pe_bltn (v := .ty "ValueError") rfl T.b_ValueError rfl rfl (by decide) (by decide)) (fun _ h => h)))) sds_nil))))))))) (HMix.as ⟨rfl, by decide, Or.inl T.c_EndBead⟩ hN (i := 2) rfl rfl (fun a oe cls d pn hz hf => (su_pss (fun x => (sss_one (ss_ret (sd_tup (sds_cons sd_str (sds_cons (sd_xf [(7, 0)] rfl (xfAt_cons rfl T.xf_7 T.nf_7_bead xfAt_nil) hz.zc hf) (sds_cons (sd_and (sd_isx [(7, true)] rfl (isAt_cons T.ec_7 T.is_7_MootError isAt_nil) hz.zc hf T.b_isinstance rfl (pe_own T.c_MootError) (fun _ h => h)) (sd_and1 (sd_not (sb_of (sd_isx [(7, false)] rfl (isAt_cons T.ec_7 T.is_7_QuietMove isAt_nil) hz.zc hf T.b_isinstance rfl (pe_own T.c_QuietMove) (fun _ h => h)))))) sds_nil))))))))) (HMix.as ⟨rfl, by decide, Or.inl T.c_QuietMove⟩ hN (i := 2) rfl rfl (fun a oe cls d pn hz hf => (su_pss (fun x => (sss_one (ss_ret (sd_tup (sds_cons sd_str (sds_cons (sd_xf [(38, 0)] rfl (xfAt_cons rfl T.xf_38 T.nf_38_bead xfAt_nil) hz.zc hf) (sds_cons (sd_and (sd_isx [(38, true)] rfl (isAt_cons T.ec_38 T.is_38_MootError isAt_nil) hz.zc hf T.b_isinstance rfl (pe_own T.c_MootError) (fun _ h => h)) (sd_and1 (sd_isx [(38, true)] rfl (isAt_cons T.ec_38 T.is_38_ValueError isAt_nil) hz.zc hf T.b_isinstance rfl (pe_bltn (v := .ty "ValueError") rfl T.b_ValueError rfl rfl (by decide) (by decide)) (fun _ h => h)))) sds_nil))))))))) HMix.nil)))) (.cons (okT_cons (exm_of T.ec_5 T.ty_5 T.sb_0_5) (okT_cons (exm_of T.ec_5 T.ty_5 T.sb_1_5) (okT_cons (exm_of T.ec_5 T.ty_5 T.sb_2_5) (okT_cons (exm_of T.ec_5 T.ty_5 T.sb_5_5) (okT_cons (exm_of T.ec_5 T.ty_5 T.sb_6_5) (okT_cons (exm_of T.ec_5 T.ty_5 T.sb_7_5) (okT_cons (exm_of T.ec_5 T.ty_5 T.sb_9_5) (okT_cons (exm_of T.ec_5 T.ty_5 T.sb_10_5) (okT_cons (exm_of T.ec_5 T.ty_5 T.sb_38_5) okT_nil))))))))) (.cons (okT_cons (exm_of T.ec_6 T.ty_6 T.sb_0_6) (okT_cons (exm_of T.ec_6 T.ty_6 T.sb_1_6) (okT_cons (exm_of T.ec_6 T.ty_6 T.sb_2_6) (okT_cons (exm_of T.ec_6 T.ty_6 T.sb_5_6) (okT_cons (exm_of T.ec_6 T.ty_6 T.sb_6_6) (okT_cons (exm_of T.ec_6 T.ty_6 T.sb_7_6) (okT_cons (exm_of T.ec_6 T.ty_6 T.sb_9_6) (okT_cons (exm_of T.ec_6 T.ty_6 T.sb_10_6) (okT_cons (exm_of T.ec_6 T.ty_6 T.sb_38_6) okT_nil))))))))) (.cons (okT_cons (exm_of T.ec_7 T.ty_7 T.sb_0_7) (okT_cons (exm_of T.ec_7 T.ty_7 T.sb_1_7) (okT_cons (exm_of T.ec_7 T.ty_7 T.sb_2_7) (okT_cons (exm_of T.ec_7 T.ty_7 T.sb_5_7) (okT_cons (exm_of T.ec_7 T.ty_7 T.sb_6_7) (okT_cons (exm_of T.ec_7 T.ty_7 T.sb_7_7) (okT_cons (exm_of T.ec_7 T.ty_7 T.sb_9_7) (okT_cons (exm_of T.ec_7 T.ty_7 T.sb_10_7) (okT_cons (exm_of T.ec_7 T.ty_7 T.sb_38_7) okT_nil))))))))) (.cons (okT_cons (exm_of T.ec_38 T.ty_38 T.sb_0_38) (okT_cons (exm_of T.ec_38 T.ty_38 T.sb_1_38) (okT_cons (exm_of T.ec_38 T.ty_38 T.sb_2_38) (okT_cons (exm_of T.ec_38 T.ty_38 T.sb_5_38) (okT_cons (exm_of T.ec_38 T.ty_38 T.sb_6_38) (okT_cons (exm_of T.ec_38 T.ty_38 T.sb_7_38) (okT_cons (exm_of T.ec_38 T.ty_38 T.sb_9_38) (okT_cons (exm_of T.ec_38 T.ty_38 T.sb_10_38) (okT_cons (exm_of T.ec_38 T.ty_38 T.sb_38_38) okT_nil))))))))) .nil))))))
theorem h__law_move (T : Tx P K mg A) : Has P w K mg base "_law_move" (cfg A) 8 true false ["_law_game_here", "_law_bead"] F__law_move := by
  obtain ⟨f, fd, Fu, hm⟩ := T.f__law_move
  exact ⟨f, fd, hm, Fu.kp, (Fu.binds (ps := ["_law_game_here", "_law_bead"]) fun _ _ _ _ _ _ us hl => match us, hl with | [_, _], _ => rfl), d__law_move T Fu⟩

def CT0_law_apart : Mx Bool := (mTst (mOp fNe (mVar 6) (mOp fIx (mVar 4) (mUn fNeg (mC (.int 1))))))
def CE1_law_apart : Mx D := (mVar 6)
def m__law_apart : Ms := (mSq (mPut (tName 3) (mLRg kR1 (mCons (mCal kLen (mCons (mVar 2) mNil)) mNil))) (mSq (mIf (mNotT (mTru (mCall F__law_is_told (mCons (mVar 1) (mCons (mVar 2) (mCons (mVar 3) (mCons (mC (.int 0)) mNil))))))) (mRet (mC (.bl false))) mSkip) (mSq (mPut (tName 4) (mCall F__law_allowed (mCons (mVar 2) (mCons (mVar 3) mNil)))) (mSq (mIf (mTst (mOp fEq (mCal kLen (mCons (mVar 4) mNil)) (mC (.int 0)))) (mRet (mCall F__law_is_undone (mCons (mVar 1) (mCons (mLst mNil) mNil)))) mSkip) (mSq (mIf (mNotT (mTru (mCall (F__law_same 6) (mCons (mCall F__law_move (mCons (mVar 1) (mCons (mOp fIx (mVar 4) (mUn fNeg (mC (.int 1)))) mNil))) (mCons (mTup (mCons (mC (.str "moved")) (mCons (mCall F__law_mark_at (mCons (mVar 2) (mCons (mVar 3) (mCons (mOp fIx (mVar 4) (mUn fNeg (mC (.int 1)))) mNil)))) mNil))) mNil))))) (mRet (mC (.bl false))) mSkip) (mSq (mPut (tName 5) (mLc (mSeqA (mVar 3)) (tName 6) CT0_law_apart CE1_law_apart [6])) (mRet (mAnd (mCall F__law_is_told (mCons (mVar 1) (mCons (mVar 2) (mCons (mVar 5) (mCons (mC (.int 1)) mNil))))) (mCall F__law_is_told (mCons (mVar 0) (mCons (mVar 2) (mCons (mVar 3) (mCons (mC (.int 0)) mNil)))))))))))))
def F__law_apart : Fn := mFn 3 7 false m__law_apart
theorem d__law_apart (T : Tx P K mg A) {f : Addr} {fd : FuncData} (Fu : Fun K "_law_apart" "_law_apart" s__law_apart f fd) : FnOk P w K mg base (L2N.CX P w) 10 f fd ["_law_game_here", "_law_other", "_law_kinds_here"] (spF K (cfg A) true false F__law_apart) := by
  have hN : (["_law_game_here", "_law_other", "_law_kinds_here", "_law_start", "_law_allowed_here", "_law_rest", "_law_bead"] : List Str).Nodup := by decide +kernel
  exact fn_sim (N := ["_law_game_here", "_law_other", "_law_kinds_here", "_law_start", "_law_allowed_here", "_law_rest", "_law_bead"]) (ps := ["_law_game_here", "_law_other", "_law_kinds_here"]) (m := m__law_apart) (ΓX := []) (Γ' := [false, false, false, false, false, false, false]) rfl Fu ⟨rfl, rfl, rfl, by decide +kernel, rfl, by decide +kernel, by decide +kernel⟩ fun cdv A' outer s H E hr => (sss_cons (ss_set 3 hN (sd_listR1 rfl T.b_list T.b_range (sd_calB o_len f_len T.b_len rfl (sbs_cons (sb_var 2) sbs_nil)))) (sss_cons (ss_if (Γ' := [false, false, false, false, false, false, false]) (st_not (st_tru (sb_of (sd_fn (h__law_is_told T) (lets (L2N.takes_of rfl rfl rfl rfl)) hr (sds_cons (sd_var 1) (sds_cons (sd_var 2) (sds_cons (sd_var 3) (sds_cons sd_int sds_nil)))))))) (sss_one (ss_ret sd_bl)) sss_nil) (sss_cons (ss_set 4 hN (sd_fn (h__law_allowed T) (lets (L2N.takes_of rfl rfl rfl rfl)) hr (sds_cons (sd_var 2) (sds_cons (sd_var 3) sds_nil)))) (sss_cons (ss_if (Γ' := [false, false, false, false, false, false, false]) (st_cmp (o_eq (Room.units hr)) f_eq (sb_of (sd_calB o_len f_len T.b_len rfl (sbs_cons (sb_var 4) sbs_nil))) (sb_of sd_int)) (sss_one (ss_ret (sd_fn (h__law_is_undone T) (lets (L2N.takes_of rfl rfl rfl rfl)) hr (sds_cons (sd_var 1) (sds_cons (sd_lst sds_nil) sds_nil))))) sss_nil) (sss_cons (ss_if (Γ' := [false, false, false, false, false, false, false]) (st_not (st_tru (sb_of (sd_fn (h__law_same T 6) (lets (L2N.takes_of rfl rfl rfl rfl)) hr (sds_cons (sd_fn (h__law_move T) (lets (L2N.takes_of rfl rfl rfl rfl)) hr (sds_cons (sd_var 1) (sds_cons (sd_ix (sb_var 4) (sb_of (sd_un un_neg f_neg (sb_of sd_int)))) sds_nil))) (sds_cons (sd_tup (sds_cons sd_str (sds_cons (sd_fn (h__law_mark_at T) (lets (L2N.takes_of rfl rfl rfl rfl)) hr (sds_cons (sd_var 2) (sds_cons (sd_var 3) (sds_cons (sd_ix (sb_var 4) (sb_of (sd_un un_neg f_neg (sb_of sd_int)))) sds_nil)))) sds_nil))) sds_nil)))))) (sss_one (ss_ret sd_bl)) sss_nil) (sss_cons (ss_setLc 5 hN (tt := tDb K _ _ _) (own := [("_law_bead", 6)]) rfl (si_seqAB (sb_var 3)) (by show BlkOk ["_law_game_here", "_law_other", "_law_kinds_here", "_law_start", "_law_allowed_here", "_law_rest", "_law_bead"] (defScope s__law_apart) _ _; exact ⟨rfl, by decide +kernel, by decide +kernel, by decide +kernel, by decide +kernel⟩) (fun s H C cl fp => (tg_name 6 hN)) (fun s H C cl fp => (sts_one (st_cmp (o_ne (Room.units hr)) f_ne (sb_var 6) (sb_of (sd_ix (sb_var 4) (sb_of (sd_un un_neg f_neg (sb_of sd_int)))))))) (fun s H C cl fp => (sd_var 6))) (sss_one (ss_ret (sd_and (sd_fn (h__law_is_told T) (lets (L2N.takes_of rfl rfl rfl rfl)) hr (sds_cons (sd_var 1) (sds_cons (sd_var 2) (sds_cons (sd_var 5) (sds_cons sd_int sds_nil))))) (sd_and1 (sd_fn (h__law_is_told T) (lets (L2N.takes_of rfl rfl rfl rfl)) hr (sds_cons (sd_var 0) (sds_cons (sd_var 2) (sds_cons (sd_var 3) (sds_cons sd_int sds_nil)))))))))))))))
theorem h__law_apart (T : Tx P K mg A) : Has P w K mg base "_law_apart" (cfg A) 10 true false ["_law_game_here", "_law_other", "_law_kinds_here"] F__law_apart := by
  obtain ⟨f, fd, Fu, hm⟩ := T.f__law_apart
  exact ⟨f, fd, hm, Fu.kp, (Fu.binds (ps := ["_law_game_here", "_law_other", "_law_kinds_here"]) fun _ _ _ _ _ _ us hl => match us, hl with | [_, _, _], _ => rfl), d__law_apart T Fu⟩

def CT0_law : Mx Bool := (mTst (mOp fNe (mVar 14) (mVar 12)))
def CE1_law : Mx D := (mVar 14)
def L2_law : Ms := (mSq (mIf (mNotT (mTru (mCall F__law_is_told (mCons (mVar 4) (mCons (mVar 1) (mCons (mVar 7) (mCons (mCal kLen (mCons (mVar 8) mNil)) mNil))))))) (mRet (mC (.bl false))) mSkip) (mSq (mPut (tName 10) (mCall F__law_bad (mCons (mVar 1) (mCons (mVar 7) (mCons (mVar 8) (mCons (mOp fIx (mVar 6) (mOp fMul (mC (.int 3)) (mVar 9))) mNil)))))) (mSq (mIf (mNotT (mTru (mCall (F__law_same 6) (mCons (mCall F__law_move (mCons (mVar 4) (mCons (mOp fIx (mVar 10) (mC (.int 0))) mNil))) (mCons (mTup (mCons (mOp fIx (mVar 10) (mC (.int 1))) (mCons (mOp fIx (mVar 10) (mC (.int 0))) (mCons (mC (.bl true)) mNil)))) mNil))))) (mRet (mC (.bl false))) mSkip) (mSq (mIf (mNotT (mTru (mCall F__law_is_told (mCons (mVar 4) (mCons (mVar 1) (mCons (mVar 7) (mCons (mCal kLen (mCons (mVar 8) mNil)) mNil))))))) (mRet (mC (.bl false))) mSkip) (mSq (mPut (tName 11) (mCall F__law_allowed (mCons (mVar 1) (mCons (mVar 7) mNil)))) (mIf (mOrT (mTst (mOp fEq (mCal kLen (mCons (mVar 11) mNil)) (mC (.int 0)))) (mTst (mOp fEq (mOp fMod (mOp fIx (mVar 6) (mOp fAdd (mOp fMul (mC (.int 3)) (mVar 9)) (mC (.int 1)))) (mC (.int 5))) (mC (.int 0))))) (mSq (mIf (mNotT (mTru (mCall F__law_is_undone (mCons (mVar 4) (mCons (mVar 8) mNil))))) (mRet (mC (.bl false))) mSkip) (mSq (mPut (tName 7) (mCal kSorted (mCons (mOp fAdd (mVar 7) (mSl (mVar 8) (some (mUn fNeg (mC (.int 1)))) none)) mNil))) (mPut (tName 8) (mSl (mVar 8) none (some (mUn fNeg (mC (.int 1)))))))) (mSq (mPut (tName 12) (mOp fIx (mVar 11) (mOp fMod (mOp fIx (mVar 6) (mOp fAdd (mOp fMul (mC (.int 3)) (mVar 9)) (mC (.int 2)))) (mCal kLen (mCons (mVar 11) mNil))))) (mSq (mPut (tName 13) (mCall F__law_mark_at (mCons (mVar 1) (mCons (mVar 7) (mCons (mIdx (mVar 7) (mVar 12)) mNil))))) (mSq (mIf (mNotT (mTru (mCall (F__law_same 6) (mCons (mCall F__law_move (mCons (mVar 4) (mCons (mVar 12) mNil))) (mCons (mTup (mCons (mC (.str "moved")) (mCons (mVar 13) mNil))) mNil))))) (mRet (mC (.bl false))) mSkip) (mSq (mPut (tName 7) (mLc (mSeqA (mVar 7)) (tName 14) CT0_law CE1_law [14])) (mPut (tName 8) (mOp fAdd (mVar 8) (mLst (mCons (mVar 12) mNil))))))))))))))
def m_law : Ms := (mSq (mPut (tName 1) (mCall F__law_base (mCons (mVar 0) (mCons (mC (.int 0)) (mCons (mC (.int 9)) mNil))))) (mSq (mPut (tName 2) (mCall F__law_draws (mCons (mCall F__law_cell (mCons (mVar 0) (mCons (mC (.int 3)) mNil))) (mCons (mC (.int 2)) (mCons (mC (.int 60)) mNil))))) (mSq (mPut (tName 3) (mMk 49 5 F_Strand_init (mCons (mCal kList (mCons (mVar 1) mNil)) mNil))) (mSq (mPut (tName 4) (mCall F__law_game (mCons (mVar 3) (mCons (mOp fMod (mOp fIx (mVar 2) (mC (.int 0))) (mC (.int 3))) mNil)))) (mSq (mPut (tName 5) (mCall F__law_game (mCons (mVar 3) (mCons (mOp fMod (mOp fIx (mVar 2) (mC (.int 1))) (mC (.int 3))) mNil)))) (mSq (mPut (tName 6) (mCall F__law_draws (mCons (mCall F__law_cell (mCons (mVar 0) (mCons (mC (.int 4)) mNil))) (mCons (mC (.int 30)) (mCons (mC (.int 240)) mNil))))) (mSq (mPut (tName 7) (mLRg kR1 (mCons (mCal kLen (mCons (mVar 1) mNil)) mNil))) (mSq (mPut (tName 8) (mLst mNil)) (mSq (mFor (mRng kRng1 (mCons (mC (.int 10)) mNil)) (tName 9) L2_law) (mRet (mAnd (mCall F__law_all_undone (mCons (mVar 4) (mCons (mVar 1) (mCons (mVar 8) mNil)))) (mCall F__law_apart (mCons (mVar 4) (mCons (mVar 5) (mCons (mVar 1) mNil)))))))))))))))
def F_law : Fn := mFn 1 15 false m_law
theorem d_law (T : Tx P K mg A) {f : Addr} {fd : FuncData} (Fu : Fun K "law" "law" s_law f fd) : FnOk P w K mg base (L2N.CX P w) 11 f fd ["_law_script"] (spF K (cfg A) true false F_law) := by
  have hN : (["_law_script", "_law_kinds_here", "_law_choice", "_law_line", "_law_game_here", "_law_other", "_law_picks", "_law_standing", "_law_made", "_law_k", "_law_bad_here", "_law_allowed_here", "_law_bead", "_law_mark_here", "_law_x"] : List Str).Nodup := by decide +kernel
  exact fn_sim (N := ["_law_script", "_law_kinds_here", "_law_choice", "_law_line", "_law_game_here", "_law_other", "_law_picks", "_law_standing", "_law_made", "_law_k", "_law_bad_here", "_law_allowed_here", "_law_bead", "_law_mark_here", "_law_x"]) (ps := ["_law_script"]) (m := m_law) (ΓX := []) (Γ' := [false, false, false, false, false, false, false, false, false, false, false, false, false, false, false]) rfl Fu ⟨rfl, rfl, rfl, by decide +kernel, rfl, by decide +kernel, by decide +kernel⟩ fun cdv A' outer s H E hr => (sss_cons (ss_set 1 hN (sd_fn (h__law_base T) (lets (L2N.takes_of rfl rfl rfl rfl)) hr (sds_cons (sd_var 0) (sds_cons sd_int (sds_cons sd_int sds_nil))))) (sss_cons (ss_set 2 hN (sd_fn (h__law_draws T) (lets (L2N.takes_of rfl rfl rfl rfl)) hr (sds_cons (sd_fn (h__law_cell T) (lets (L2N.takes_of rfl rfl rfl rfl)) hr (sds_cons (sd_var 0) (sds_cons sd_int sds_nil))) (sds_cons sd_int (sds_cons sd_int sds_nil))))) (sss_cons (ss_set 3 hN (sd_new (h_Strand_init T) (lets (L2N.takes_of rfl rfl rfl rfl)) hr (sds_cons (sd_calT o_list f_list T.b_list rfl (sbs_cons (sb_var 1) sbs_nil)) sds_nil))) (sss_cons (ss_set 4 hN (sd_fn (h__law_game T) (lets (L2N.takes_of rfl rfl rfl rfl)) hr (sds_cons (sd_var 3) (sds_cons (sd_op op_mod f_mod (sb_of (sd_ix (sb_var 2) (sb_of sd_int))) (sb_of sd_int)) sds_nil)))) (sss_cons (ss_set 5 hN (sd_fn (h__law_game T) (lets (L2N.takes_of rfl rfl rfl rfl)) hr (sds_cons (sd_var 3) (sds_cons (sd_op op_mod f_mod (sb_of (sd_ix (sb_var 2) (sb_of sd_int))) (sb_of sd_int)) sds_nil)))) (sss_cons (ss_set 6 hN (sd_fn (h__law_draws T) (lets (L2N.takes_of rfl rfl rfl rfl)) hr (sds_cons (sd_fn (h__law_cell T) (lets (L2N.takes_of rfl rfl rfl rfl)) hr (sds_cons (sd_var 0) (sds_cons sd_int sds_nil))) (sds_cons sd_int (sds_cons sd_int sds_nil))))) (sss_cons (ss_set 7 hN (sd_listR1 rfl T.b_list T.b_range (sd_calB o_len f_len T.b_len rfl (sbs_cons (sb_var 1) sbs_nil)))) (sss_cons (ss_set 8 hN (sd_lst sds_nil)) (sss_cons (ss_for (passes_of rfl) rfl (si_range1 (sds_cons sd_int sds_nil) T.b_range) (tg_name 9 hN) (sss_cons (ss_if (Γ' := [false, false, false, false, false, false, false, false, false, false, false, false, false, false, false]) (st_not (st_tru (sb_of (sd_fn (h__law_is_told T) (lets (L2N.takes_of rfl rfl rfl rfl)) hr (sds_cons (sd_var 4) (sds_cons (sd_var 1) (sds_cons (sd_var 7) (sds_cons (sd_calB o_len f_len T.b_len rfl (sbs_cons (sb_var 8) sbs_nil)) sds_nil)))))))) (sss_one (ss_ret sd_bl)) sss_nil) (sss_cons (ss_set 10 hN (sd_fn (h__law_bad T) (lets (L2N.takes_of rfl rfl rfl rfl)) hr (sds_cons (sd_var 1) (sds_cons (sd_var 7) (sds_cons (sd_var 8) (sds_cons (sd_ix (sb_var 6) (sb_of (sd_op op_mul f_mul (sb_of sd_int) (sb_var 9)))) sds_nil)))))) (sss_cons (ss_if (Γ' := [false, false, false, false, false, false, false, false, false, false, false, false, false, false, false]) (st_not (st_tru (sb_of (sd_fn (h__law_same T 6) (lets (L2N.takes_of rfl rfl rfl rfl)) hr (sds_cons (sd_fn (h__law_move T) (lets (L2N.takes_of rfl rfl rfl rfl)) hr (sds_cons (sd_var 4) (sds_cons (sd_ix (sb_var 10) (sb_of sd_int)) sds_nil))) (sds_cons (sd_tup (sds_cons (sd_ix (sb_var 10) (sb_of sd_int)) (sds_cons (sd_ix (sb_var 10) (sb_of sd_int)) (sds_cons sd_bl sds_nil)))) sds_nil)))))) (sss_one (ss_ret sd_bl)) sss_nil) (sss_cons (ss_if (Γ' := [false, false, false, false, false, false, false, false, false, false, false, false, false, false, false]) (st_not (st_tru (sb_of (sd_fn (h__law_is_told T) (lets (L2N.takes_of rfl rfl rfl rfl)) hr (sds_cons (sd_var 4) (sds_cons (sd_var 1) (sds_cons (sd_var 7) (sds_cons (sd_calB o_len f_len T.b_len rfl (sbs_cons (sb_var 8) sbs_nil)) sds_nil)))))))) (sss_one (ss_ret sd_bl)) sss_nil) (sss_cons (ss_set 11 hN (sd_fn (h__law_allowed T) (lets (L2N.takes_of rfl rfl rfl rfl)) hr (sds_cons (sd_var 1) (sds_cons (sd_var 7) sds_nil)))) (sss_one (ss_if (Γ' := [false, false, false, false, false, false, false, false, false, false, false, false, false, false, false]) (st_w (sw_or (st_cmp (o_eq (Room.units hr)) f_eq (sb_of (sd_calB o_len f_len T.b_len rfl (sbs_cons (sb_var 11) sbs_nil))) (sb_of sd_int)) (sw_or1 (st_cmp (o_eq (Room.units hr)) f_eq (sb_of (sd_op op_mod f_mod (sb_of (sd_ix (sb_var 6) (sb_of (sd_op o_add f_add (sb_of (sd_op op_mul f_mul (sb_of sd_int) (sb_var 9))) (sb_of sd_int))))) (sb_of sd_int))) (sb_of sd_int))))) (sss_cons (ss_if (Γ' := [false, false, false, false, false, false, false, false, false, false, false, false, false, false, false]) (st_not (st_tru (sb_of (sd_fn (h__law_is_undone T) (lets (L2N.takes_of rfl rfl rfl rfl)) hr (sds_cons (sd_var 4) (sds_cons (sd_var 8) sds_nil)))))) (sss_one (ss_ret sd_bl)) sss_nil) (sss_cons (ss_set 7 hN (sd_calB cr_sortedI f_sorted T.b_sorted rfl (sbs_cons (sb_of (sd_op o_add f_add (sb_var 7) (sb_of (sd_sl (sb_var 8) (SP.some (sd_un un_neg f_neg (sb_of sd_int))) SP.none)))) sbs_nil))) (sss_one (ss_set 8 hN (sd_sl (sb_var 8) SP.none (SP.some (sd_un un_neg f_neg (sb_of sd_int)))))))) (sss_cons (ss_set 12 hN (sd_ix (sb_var 11) (sb_of (sd_op op_mod f_mod (sb_of (sd_ix (sb_var 6) (sb_of (sd_op o_add f_add (sb_of (sd_op op_mul f_mul (sb_of sd_int) (sb_var 9))) (sb_of sd_int))))) (sb_of (sd_calB o_len f_len T.b_len rfl (sbs_cons (sb_var 11) sbs_nil))))))) (sss_cons (ss_set 13 hN (sd_fn (h__law_mark_at T) (lets (L2N.takes_of rfl rfl rfl rfl)) hr (sds_cons (sd_var 1) (sds_cons (sd_var 7) (sds_cons (sd_indexA (sb_var 7) (sb_var 12)) sds_nil))))) (sss_cons (ss_if (Γ' := [false, false, false, false, false, false, false, false, false, false, false, false, false, false, false]) (st_not (st_tru (sb_of (sd_fn (h__law_same T 6) (lets (L2N.takes_of rfl rfl rfl rfl)) hr (sds_cons (sd_fn (h__law_move T) (lets (L2N.takes_of rfl rfl rfl rfl)) hr (sds_cons (sd_var 4) (sds_cons (sd_var 12) sds_nil))) (sds_cons (sd_tup (sds_cons sd_str (sds_cons (sd_var 13) sds_nil))) sds_nil)))))) (sss_one (ss_ret sd_bl)) sss_nil) (sss_cons (ss_setLc 7 hN (tt := tDb K _ _ _) (own := [("_law_x", 14)]) rfl (si_seqAB (sb_var 7)) (by show BlkOk ["_law_script", "_law_kinds_here", "_law_choice", "_law_line", "_law_game_here", "_law_other", "_law_picks", "_law_standing", "_law_made", "_law_k", "_law_bad_here", "_law_allowed_here", "_law_bead", "_law_mark_here", "_law_x"] (defScope s_law) _ _; exact ⟨rfl, by decide +kernel, by decide +kernel, by decide +kernel, by decide +kernel⟩) (fun s H C cl fp => (tg_name 14 hN)) (fun s H C cl fp => (sts_one (st_cmp (o_ne (Room.units hr)) f_ne (sb_var 14) (sb_var 12)))) (fun s H C cl fp => (sd_var 14))) (sss_one (ss_set 8 hN (sd_op o_add f_add (sb_var 8) (sb_of (sd_lst (sds_cons (sd_var 12) sds_nil)))))))))))))))))) (sss_one (ss_ret (sd_and (sd_fn (h__law_all_undone T) (lets (L2N.takes_of rfl rfl rfl rfl)) hr (sds_cons (sd_var 4) (sds_cons (sd_var 1) (sds_cons (sd_var 8) sds_nil)))) (sd_and1 (sd_fn (h__law_apart T) (lets (L2N.takes_of rfl rfl rfl rfl)) hr (sds_cons (sd_var 4) (sds_cons (sd_var 5) (sds_cons (sd_var 1) sds_nil)))))))))))))))))
theorem h_law (T : Tx P K mg A) : Has P w K mg base "law" (cfg A) 11 true false ["_law_script"] F_law := by
  obtain ⟨f, fd, Fu, hm⟩ := T.f_law
  exact ⟨f, fd, hm, Fu.kp, (Fu.binds (ps := ["_law_script"]) fun _ _ _ _ _ _ us hl => match us, hl with | [_], _ => rfl), d_law T Fu⟩
end
end K27
section
set_option Elab.async false
set_option linter.all false
set_option maxRecDepth 100000
set_option maxHeartbeats 4000000
local macro_rules | `(tactic| array_mem_dec) => `(tactic| first
  | with_reducible refine Sm.s_sq ?_
  | with_reducible refine Sm.s_put ?_
  | with_reducible refine Sm.s_own ?_
  | with_reducible refine Sm.s_if ?_
  | with_reducible refine Sm.s_ret ?_
  | with_reducible refine Sm.s_skip ?_
  | with_reducible refine Sm.s_do ?_
  | with_reducible refine Sm.s_retN ?_
  | with_reducible refine Sm.s_for ?_
  | with_reducible refine Sm.s_raise ?_
  | with_reducible refine Sm.s_setF ?_
  | with_reducible refine Sm.s_brk ?_
  | with_reducible refine Sm.s_cont ?_
  | ((with_reducible refine Sm.s_ownS (d := ?d) ?e ?l ?_); (case e => rfl); (case l => rfl))
  | ((with_reducible refine Sm.s_setIx (xs := ?xs) ?e ?_); (case e => intro _; rfl))
  | with_reducible refine Sm.w_C ?_
  | ((with_reducible refine Sm.w_var (d := ?d) ?e ?_); (case e => rfl))
  | with_reducible refine Sm.w_op ?_
  | with_reducible refine Sm.w_un ?_
  | with_reducible refine Sm.w_cons ?_
  | with_reducible refine Sm.w_nil ?_
  | with_reducible refine Sm.w_lst ?_
  | with_reducible refine Sm.w_tup ?_
  | with_reducible refine Sm.w_cal ?_
  | with_reducible refine Sm.w_call ?_
  | with_reducible refine Sm.w_callV ?_
  | with_reducible refine Sm.w_meth ?_
  | with_reducible refine Sm.w_fld ?_
  | with_reducible refine Sm.w_prp ?_
  | with_reducible refine Sm.w_mk ?_
  | with_reducible refine Sm.w_perm ?_
  | with_reducible refine Sm.w_m1 ?_
  | with_reducible refine Sm.w_sl ?_
  | with_reducible refine Sm.w_part0 ?_
  | with_reducible refine Sm.w_part ?_
  | with_reducible refine Sm.w_and ?_
  | with_reducible refine Sm.w_or ?_
  | with_reducible refine Sm.w_not ?_
  | with_reducible refine Sm.w_ife ?_
  | with_reducible refine Sm.w_seq ?_
  | with_reducible refine Sm.w_rng ?_
  | with_reducible refine Sm.l_nil ?_
  | with_reducible refine Sm.l_cons ?_
  | with_reducible refine Sm.o_tupT ?_
  | with_reducible refine Sm.o_sets0 ?_
  | with_reducible refine Sm.o_sets ?_
  | with_reducible refine Sm.w_seqA ?_
  | with_reducible refine Sm.o_itAl ?_
  | with_reducible refine Sm.o_itAt ?_
  | with_reducible refine Sm.o_itAs ?_
  | with_reducible refine Sm.w_enum ?_
  | with_reducible refine Sm.o_enum ?_
  | with_reducible refine Sm.w_zip ?_
  | with_reducible refine Sm.o_zipl ?_
  | with_reducible refine Sm.o_zipt ?_
  | with_reducible refine Sm.w_idx ?_
  | with_reducible refine Sm.ex_lst ?_
  | with_reducible refine Sm.w_sel ?_
  | with_reducible refine Sm.w_m0 ?_
  | with_reducible refine Sm.w_lrg ?_
  | with_reducible refine Sm.w_trg ?_
  | with_reducible refine Sm.w_iso ?_
  | with_reducible refine Sm.s_try ?_
  | with_reducible refine Sm.rt_ret ?_
  | with_reducible refine Sm.rt_err ?_
  | with_reducible refine Sm.ru_ret ?_
  | ((with_reducible refine Sm.h_yes ?e ?g ?_); (case e => rfl); (case g => first | rfl | (simp; done)))
  | ((with_reducible refine Sm.h_no ?e ?_); (case e => rfl))
  | with_reducible refine Sm.h_out ?_
  | ((with_reducible refine Sm.w_xf (k := ?k) (d := ?d) ?a ?e ?g ?_); (case a => rfl); (case e => rfl); (case g => rfl))
  | ((with_reducible refine Sm.w_isX (k := ?k) ?a ?e ?_); (case a => rfl); (case e => rfl))
  | with_reducible refine Sm.o_wrA ?_
  | ((with_reducible refine Sm.o_rdA (k := ?k) (d := ?d) ?e ?g ?_); (case e => rfl); (case g => rfl))
  | ((with_reducible refine Sm.o_strI ?e ?g ?_); (case e => omega); (case g => omega))
  | ((with_reducible refine Sm.o_lenS ?e ?_); (case e => omega))
  | ((with_reducible refine Sm.o_slS ?e ?_); (case e => omega))
  | with_reducible refine Sm.o_nis ?_
  | with_reducible refine Sm.o_ins ?_
  | with_reducible refine Sm.t_tst ?_
  | with_reducible refine Sm.t_tru ?_
  | with_reducible refine Sm.t_and ?_
  | with_reducible refine Sm.t_or ?_
  | with_reducible refine Sm.t_not ?_
  | with_reducible refine Sm.t_yes ?_
  | with_reducible refine Sm.r_ret ?_
  | with_reducible refine Sm.r_err ?_
  | with_reducible refine Sm.l_ret ?_
  | with_reducible refine Sm.l_err ?_
  | with_reducible refine Sm.l_brk ?_
  | with_reducible refine Sm.l_cont ?_
  | ((with_reducible refine Sm.o_name (sl1 := ?sl) ?e ?g ?_); (case e => simp); (case g => simp only [List.set_cons_succ, List.set_cons_zero]; rfl))
  | ((with_reducible refine Sm.o_mul ?e ?_); (case e => first | exact .inl (by decide) | exact .inr (by decide) | exact .inl (Sm.sm_of (by omega) (by omega)) | exact .inr (Sm.sm_of (by omega) (by omega))))
  | ((with_reducible refine Sm.o_mod ?e ?_); (case e => first | decide | omega))
  | ((with_reducible refine Sm.o_fdiv ?e ?g ?_); (case e => first | decide | omega); (case g => first | decide | omega))
  | with_reducible refine Sm.o_truthi ?_
  | with_reducible refine Sm.o_truthl ?_
  | with_reducible refine Sm.o_trutht ?_
  | with_reducible refine Sm.o_truthb ?_
  | with_reducible refine Sm.o_truthn ?_
  | ((with_reducible refine Sm.o_truths ?e ?_); (case e => first | decide | omega))
  | ((with_reducible refine Sm.o_catl ?e ?_); (case e => first | (simp; done) | (simp; omega)))
  | ((with_reducible refine Sm.o_app ?e ?_); (case e => first | omega | (simp; done) | (simp; omega)))
  | ((with_reducible refine Sm.o_rng1 ?e ?g ?_); (case e => omega); (case g => omega))
  | ((with_reducible refine Sm.o_rng2 ?e ?g ?a ?b ?_); (case e => omega); (case g => omega); (case a => omega); (case b => omega))
  | with_reducible refine Sm.o_itl ?_
  | with_reducible refine Sm.o_itt ?_
  | with_reducible refine Sm.o_iz Sm.p4 ?_
  | with_reducible refine Sm.o_iz Sm.p9 ?_
  | with_reducible refine Sm.o_iz Sm.p12 ?_
  | with_reducible refine Sm.o_iz Sm.p13 ?_
  | with_reducible refine Sm.o_iz Sm.p18 ?_
  | with_reducible refine Sm.o_iz Sm.p20 ?_
  | with_reducible refine Sm.o_iz Sm.p30 ?_
  | with_reducible refine Sm.o_iz Sm.p40 ?_
  | with_reducible refine Sm.o_some ?_
  | ((with_reducible refine Sm.o_iz (z := ?z) ?e ?_); (case e => first | assumption | rfl))
  | with_reducible refine Sm.b_true ?_
  | with_reducible refine Sm.b_false ?_
  | with_reducible refine Sm.b_neg ?_
  | ((with_reducible refine Sm.b_ist ?e ?_); (case e => rfl))
  | ((with_reducible refine Sm.b_isf ?e ?_); (case e => rfl))
  | ((with_reducible refine Sm.b_yes ?e ?_); (case e => first | rfl | decide | assumption | omega))
  | ((with_reducible refine Sm.b_no ?e ?_); (case e => first | decide | assumption | omega))
  | with_reducible refine Sm.b_dec (fun _ => ?_) (fun _ => ?_)
  | with_reducible refine Sm.b_var (fun _ => ?_) (fun _ => ?_)
  | ((with_reducible refine Sm.and_fit ?e ?_); (case e => first | (simp; done) | omega | (simp; omega)))
  | ((with_reducible refine Sm.and_len ?e ?_); (case e => first | rfl | (simp; done)))
  | ((with_reducible refine Sm.and_cls ?e ?_); (case e => first | rfl | assumption))
  | ((with_reducible refine Sm.and_atom ?e ?_); (case e => rfl))
  | with_reducible refine Sm.and_non ?_
  | with_reducible refine Sm.ex_str ?_
  | with_reducible refine Sm.ex_int ?_)
local macro_rules | `(tactic| array_get_dec) => `(tactic| repeat' array_mem_dec)
namespace K27
open PySem Sm
section
variable {S : Sto} {Q : D → Sto → Prop} {X : Exc → Sto → Prop}
theorem o__law_mixed {x0 x1 : D} (h : wS m__law_mixed [some x0, some x1, none] S (fun _ S1 => Q .non S1) (rF Q X)) : wF F__law_mixed [x0, x1] S Q X := f_fn (M := 3) (n := 2) (m := m__law_mixed) (ds := [x0, x1]) rfl h
theorem o__law_draws {x0 x1 x2 : D} (h : wS m__law_draws [some x0, some x1, some x2, none, none, none] S (fun _ S1 => Q .non S1) (rF Q X)) : wF F__law_draws [x0, x1, x2] S Q X := f_fn (M := 6) (n := 3) (m := m__law_draws) (ds := [x0, x1, x2]) rfl h
theorem o__law_cell {x0 x1 : D} (h : wS m__law_cell [some x0, some x1] S (fun _ S1 => Q .non S1) (rF Q X)) : wF F__law_cell [x0, x1] S Q X := f_fn (M := 2) (n := 2) (m := m__law_cell) (ds := [x0, x1]) rfl h
theorem o__law_kinds {x0 x1 x2 : D} (h : wS m__law_kinds [some x0, some x1, some x2, none, none, none, none, none, none] S (fun _ S1 => Q .non S1) (rF Q X)) : wF F__law_kinds [x0, x1, x2] S Q X := f_fn (M := 9) (n := 3) (m := m__law_kinds) (ds := [x0, x1, x2]) rfl h
theorem o__law_base {x0 x1 x2 : D} (h : wS m__law_base [some x0, some x1, some x2, none, none] S (fun _ S1 => Q .non S1) (rF Q X)) : wF F__law_base [x0, x1, x2] S Q X := f_fn (M := 5) (n := 3) (m := m__law_base) (ds := [x0, x1, x2]) rfl h
theorem o_Strand_init {x0 x1 : D} (h : wS m_Strand_init [some x0, some x1, none, none] S (fun _ S1 => Q .non S1) (rF Q X)) : wF F_Strand_init [x0, x1] S Q X := f_fn (M := 4) (n := 2) (m := m_Strand_init) (ds := [x0, x1]) rfl h
theorem o_Row_init {x0 x1 : D} (h : wS m_Row_init [some x0, some x1, none] S (fun _ S1 => Q .non S1) (rF Q X)) : wF F_Row_init [x0, x1] S Q X := f_fn (M := 3) (n := 2) (m := m_Row_init) (ds := [x0, x1]) rfl h
theorem o_Game_init {x0 x1 x2 : D} (h : wS m_Game_init [some x0, some x1, some x2] S (fun _ S1 => Q .non S1) (rF Q X)) : wF F_Game_init [x0, x1, x2] S Q X := f_fn (M := 3) (n := 3) (m := m_Game_init) (ds := [x0, x1, x2]) rfl h
theorem o__law_game {x0 x1 : D} (h : wS m__law_game [some x0, some x1] S (fun _ S1 => Q .non S1) (rF Q X)) : wF F__law_game [x0, x1] S Q X := f_fn (M := 2) (n := 2) (m := m__law_game) (ds := [x0, x1]) rfl h
theorem o__law_mark {x0 x1 x2 : D} (h : wS m__law_mark [some x0, some x1, some x2] S (fun _ S1 => Q .non S1) (rF Q X)) : wF F__law_mark [x0, x1, x2] S Q X := f_fn (M := 3) (n := 3) (m := m__law_mark) (ds := [x0, x1, x2]) rfl h
theorem o__law_mark_at {x0 x1 x2 : D} (h : wS m__law_mark_at [some x0, some x1, some x2] S (fun _ S1 => Q .non S1) (rF Q X)) : wF F__law_mark_at [x0, x1, x2] S Q X := f_fn (M := 3) (n := 3) (m := m__law_mark_at) (ds := [x0, x1, x2]) rfl h
theorem o__law_allowed {x0 x1 : D} (h : wS m__law_allowed [some x0, some x1, none] S (fun _ S1 => Q .non S1) (rF Q X)) : wF F__law_allowed [x0, x1] S Q X := f_fn (M := 3) (n := 2) (m := m__law_allowed) (ds := [x0, x1]) rfl h
theorem o__law_bad {x0 x1 x2 x3 : D} (h : wS m__law_bad [some x0, some x1, some x2, some x3, none, none, none, none, none, none] S (fun _ S1 => Q .non S1) (rF Q X)) : wF F__law_bad [x0, x1, x2, x3] S Q X := f_fn (M := 10) (n := 4) (m := m__law_bad) (ds := [x0, x1, x2, x3]) rfl h
theorem o__law_is_integer {x0 : D} (h : wS m__law_is_integer [some x0] S (fun _ S1 => Q .non S1) (rF Q X)) : wF F__law_is_integer [x0] S Q X := f_fn (M := 1) (n := 1) (m := m__law_is_integer) (ds := [x0]) rfl h
theorem o__law_same {n : Nat} {x0 x1 : D} (h : wS (m__law_same (F__law_same n)) [some x0, some x1, none] S (fun _ S1 => Q .non S1) (rF Q X)) : wF (F__law_same (n + 1)) [x0, x1] S Q X := f_fn (M := 3) (n := 2) (m := (m__law_same (F__law_same n))) (ds := [x0, x1]) rfl h
theorem o_Rowput_back {x0 : D} (h : wS m_Rowput_back [some x0, none] S (fun _ S1 => Q .non S1) (rF Q X)) : wF F_Rowput_back [x0] S Q X := f_fn (M := 2) (n := 1) (m := m_Rowput_back) (ds := [x0]) rfl h
theorem o_Row_undo {x0 : D} (h : wS m_Row_undo [some x0, none, none, none] S (fun _ S1 => Q .non S1) (rF Q X)) : wF F_Row_undo [x0] S Q X := f_fn (M := 4) (n := 1) (m := m_Row_undo) (ds := [x0]) rfl h
theorem o_Game_undo {x0 : D} (h : wS m_Game_undo [some x0, none] S (fun _ S1 => Q .non S1) (rF Q X)) : wF F_Game_undo [x0] S Q X := f_fn (M := 2) (n := 1) (m := m_Game_undo) (ds := [x0]) rfl h
theorem o__law_undo {x0 : D} (h : wS m__law_undo [some x0, none] S (fun _ S1 => Q .non S1) (rF Q X)) : wF F__law_undo [x0] S Q X := f_fn (M := 2) (n := 1) (m := m__law_undo) (ds := [x0]) rfl h
theorem o__law_is_undone {x0 x1 : D} (h : wS m__law_is_undone [some x0, some x1] S (fun _ S1 => Q .non S1) (rF Q X)) : wF F__law_is_undone [x0, x1] S Q X := f_fn (M := 2) (n := 2) (m := m__law_is_undone) (ds := [x0, x1]) rfl h
theorem o_Row_standing {x0 : D} (h : wS m_Row_standing [some x0] S (fun _ _ => False) (rF Q X)) : wF F_Row_standing [x0] S Q X := f_fnF (M := 1) (n := 1) (m := m_Row_standing) (ds := [x0]) rfl h
theorem o_Game_standing {x0 : D} (h : wS m_Game_standing [some x0] S (fun _ _ => False) (rF Q X)) : wF F_Game_standing [x0] S Q X := f_fnF (M := 1) (n := 1) (m := m_Game_standing) (ds := [x0]) rfl h
theorem o_Rowcheck_standing {x0 x1 : D} (h : wS m_Rowcheck_standing [some x0, some x1] S (fun _ S1 => Q .non S1) (rF Q X)) : wF F_Rowcheck_standing [x0, x1] S Q X := f_fn (M := 2) (n := 2) (m := m_Rowcheck_standing) (ds := [x0, x1]) rfl h
theorem o_Rowcheck_inner {x0 x1 : D} (h : wS m_Rowcheck_inner [some x0, some x1] S (fun _ S1 => Q .non S1) (rF Q X)) : wF F_Rowcheck_inner [x0, x1] S Q X := f_fn (M := 2) (n := 2) (m := m_Rowcheck_inner) (ds := [x0, x1]) rfl h
theorem o_Row_neighbours {x0 x1 : D} (h : wS m_Row_neighbours [some x0, some x1, none, none, none] S (fun _ S1 => Q .non S1) (rF Q X)) : wF F_Row_neighbours [x0, x1] S Q X := f_fn (M := 5) (n := 2) (m := m_Row_neighbours) (ds := [x0, x1]) rfl h
theorem o_mark_of {x0 x1 x2 : D} (h : wS m_mark_of [some x0, some x1, some x2] S (fun _ S1 => Q .non S1) (rF Q X)) : wF F_mark_of [x0, x1, x2] S Q X := f_fn (M := 3) (n := 3) (m := m_mark_of) (ds := [x0, x1, x2]) rfl h
theorem o_Row_mark {x0 x1 : D} (h : wS m_Row_mark [some x0, some x1, none, none] S (fun _ S1 => Q .non S1) (rF Q X)) : wF F_Row_mark [x0, x1] S Q X := f_fn (M := 4) (n := 2) (m := m_Row_mark) (ds := [x0, x1]) rfl h
theorem o_Game_moves {x0 : D} (h : wS m_Game_moves [some x0, none] S (fun _ _ => False) (rF Q X)) : wF F_Game_moves [x0] S Q X := f_fnF (M := 2) (n := 1) (m := m_Game_moves) (ds := [x0]) rfl h
theorem o_Row_taken {x0 : D} (h : wS m_Row_taken [some x0] S (fun _ _ => False) (rF Q X)) : wF F_Row_taken [x0] S Q X := f_fnF (M := 1) (n := 1) (m := m_Row_taken) (ds := [x0]) rfl h
theorem o_Game_turn {x0 : D} (h : wS m_Game_turn [some x0] S (fun _ S1 => Q .non S1) (rF Q X)) : wF F_Game_turn [x0] S Q X := f_fn (M := 1) (n := 1) (m := m_Game_turn) (ds := [x0]) rfl h
theorem o_Game_is_over {x0 : D} (h : wS m_Game_is_over [some x0] S (fun _ S1 => Q .non S1) (rF Q X)) : wF F_Game_is_over [x0] S Q X := f_fn (M := 1) (n := 1) (m := m_Game_is_over) (ds := [x0]) rfl h
theorem o__law_is_told {x0 x1 x2 x3 : D} (h : wS m__law_is_told [some x0, some x1, some x2, some x3, none, none] S (fun _ S1 => Q .non S1) (rF Q X)) : wF F__law_is_told [x0, x1, x2, x3] S Q X := f_fn (M := 6) (n := 4) (m := m__law_is_told) (ds := [x0, x1, x2, x3]) rfl h
theorem o__law_all_undone {x0 x1 x2 : D} (h : wS m__law_all_undone [some x0, some x1, some x2, none, none, none] S (fun _ S1 => Q .non S1) (rF Q X)) : wF F__law_all_undone [x0, x1, x2] S Q X := f_fn (M := 6) (n := 3) (m := m__law_all_undone) (ds := [x0, x1, x2]) rfl h
theorem o_Rowtake_out {x0 x1 : D} (h : wS m_Rowtake_out [some x0, some x1, none, none] S (fun _ S1 => Q .non S1) (rF Q X)) : wF F_Rowtake_out [x0, x1] S Q X := f_fn (M := 4) (n := 2) (m := m_Rowtake_out) (ds := [x0, x1]) rfl h
theorem o_Row_take {x0 x1 : D} (h : wS m_Row_take [some x0, some x1, none] S (fun _ S1 => Q .non S1) (rF Q X)) : wF F_Row_take [x0, x1] S Q X := f_fn (M := 3) (n := 2) (m := m_Row_take) (ds := [x0, x1]) rfl h
theorem o_Game_move {x0 x1 : D} (h : wS m_Game_move [some x0, some x1] S (fun _ S1 => Q .non S1) (rF Q X)) : wF F_Game_move [x0, x1] S Q X := f_fn (M := 2) (n := 2) (m := m_Game_move) (ds := [x0, x1]) rfl h
theorem o__law_move {x0 x1 : D} (h : wS m__law_move [some x0, some x1, none] S (fun _ S1 => Q .non S1) (rF Q X)) : wF F__law_move [x0, x1] S Q X := f_fn (M := 3) (n := 2) (m := m__law_move) (ds := [x0, x1]) rfl h
theorem o__law_apart {x0 x1 x2 : D} (h : wS m__law_apart [some x0, some x1, some x2, none, none, none, none] S (fun _ S1 => Q .non S1) (rF Q X)) : wF F__law_apart [x0, x1, x2] S Q X := f_fn (M := 7) (n := 3) (m := m__law_apart) (ds := [x0, x1, x2]) rfl h
theorem o_law {x0 : D} (h : wS m_law [some x0, none, none, none, none, none, none, none, none, none, none, none, none, none, none] S (fun _ S1 => Q .non S1) (rF Q X)) : wF F_law [x0] S Q X := f_fn (M := 15) (n := 1) (m := m_law) (ds := [x0]) rfl h
end
end K27
end
section
set_option Elab.async false
set_option linter.all false
set_option maxRecDepth 100000
set_option maxHeartbeats 4000000
local macro_rules | `(tactic| array_mem_dec) => `(tactic| first
  | with_reducible refine Sm.s_sq ?_
  | with_reducible refine Sm.s_put ?_
  | with_reducible refine Sm.s_own ?_
  | with_reducible refine Sm.s_if ?_
  | with_reducible refine Sm.s_ret ?_
  | with_reducible refine Sm.s_skip ?_
  | with_reducible refine Sm.s_do ?_
  | with_reducible refine Sm.s_retN ?_
  | with_reducible refine Sm.s_for ?_
  | with_reducible refine Sm.s_raise ?_
  | with_reducible refine Sm.s_setF ?_
  | with_reducible refine Sm.s_brk ?_
  | with_reducible refine Sm.s_cont ?_
  | ((with_reducible refine Sm.s_ownS (d := ?d) ?e ?l ?_); (case e => rfl); (case l => rfl))
  | ((with_reducible refine Sm.s_setIx (xs := ?xs) ?e ?_); (case e => intro _; rfl))
  | with_reducible refine Sm.w_C ?_
  | ((with_reducible refine Sm.w_var (d := ?d) ?e ?_); (case e => rfl))
  | with_reducible refine Sm.w_op ?_
  | with_reducible refine Sm.w_un ?_
  | with_reducible refine Sm.w_cons ?_
  | with_reducible refine Sm.w_nil ?_
  | with_reducible refine Sm.w_lst ?_
  | with_reducible refine Sm.w_tup ?_
  | with_reducible refine Sm.w_cal ?_
  | with_reducible refine Sm.w_call ?_
  | with_reducible refine Sm.w_callV ?_
  | with_reducible refine Sm.w_meth ?_
  | with_reducible refine Sm.w_fld ?_
  | with_reducible refine Sm.w_prp ?_
  | with_reducible refine Sm.w_mk ?_
  | with_reducible refine Sm.w_perm ?_
  | with_reducible refine Sm.w_m1 ?_
  | with_reducible refine Sm.w_sl ?_
  | with_reducible refine Sm.w_part0 ?_
  | with_reducible refine Sm.w_part ?_
  | with_reducible refine Sm.w_and ?_
  | with_reducible refine Sm.w_or ?_
  | with_reducible refine Sm.w_not ?_
  | with_reducible refine Sm.w_ife ?_
  | with_reducible refine Sm.w_seq ?_
  | with_reducible refine Sm.w_rng ?_
  | with_reducible refine Sm.l_nil ?_
  | with_reducible refine Sm.l_cons ?_
  | with_reducible refine Sm.o_tupT ?_
  | with_reducible refine Sm.o_sets0 ?_
  | with_reducible refine Sm.o_sets ?_
  | with_reducible refine Sm.w_seqA ?_
  | with_reducible refine Sm.o_itAl ?_
  | with_reducible refine Sm.o_itAt ?_
  | with_reducible refine Sm.o_itAs ?_
  | with_reducible refine Sm.w_enum ?_
  | with_reducible refine Sm.o_enum ?_
  | with_reducible refine Sm.w_zip ?_
  | with_reducible refine Sm.o_zipl ?_
  | with_reducible refine Sm.o_zipt ?_
  | with_reducible refine Sm.w_idx ?_
  | with_reducible refine Sm.ex_lst ?_
  | with_reducible refine Sm.w_sel ?_
  | with_reducible refine Sm.w_m0 ?_
  | with_reducible refine Sm.w_lrg ?_
  | with_reducible refine Sm.w_trg ?_
  | with_reducible refine Sm.w_iso ?_
  | with_reducible refine Sm.s_try ?_
  | with_reducible refine Sm.rt_ret ?_
  | with_reducible refine Sm.rt_err ?_
  | with_reducible refine Sm.ru_ret ?_
  | ((with_reducible refine Sm.h_yes ?e ?g ?_); (case e => rfl); (case g => first | rfl | (simp; done)))
  | ((with_reducible refine Sm.h_no ?e ?_); (case e => rfl))
  | with_reducible refine Sm.h_out ?_
  | ((with_reducible refine Sm.w_xf (k := ?k) (d := ?d) ?a ?e ?g ?_); (case a => rfl); (case e => rfl); (case g => rfl))
  | ((with_reducible refine Sm.w_isX (k := ?k) ?a ?e ?_); (case a => rfl); (case e => rfl))
  | with_reducible refine Sm.o_wrA ?_
  | ((with_reducible refine Sm.o_rdA (k := ?k) (d := ?d) ?e ?g ?_); (case e => rfl); (case g => rfl))
  | ((with_reducible refine Sm.o_strI ?e ?g ?_); (case e => omega); (case g => omega))
  | ((with_reducible refine Sm.o_lenS ?e ?_); (case e => omega))
  | ((with_reducible refine Sm.o_slS ?e ?_); (case e => omega))
  | with_reducible refine Sm.o_nis ?_
  | with_reducible refine Sm.o_ins ?_
  | with_reducible refine Sm.t_tst ?_
  | with_reducible refine Sm.t_tru ?_
  | with_reducible refine Sm.t_and ?_
  | with_reducible refine Sm.t_or ?_
  | with_reducible refine Sm.t_not ?_
  | with_reducible refine Sm.t_yes ?_
  | with_reducible refine Sm.r_ret ?_
  | with_reducible refine Sm.r_err ?_
  | with_reducible refine Sm.l_ret ?_
  | with_reducible refine Sm.l_err ?_
  | with_reducible refine Sm.l_brk ?_
  | with_reducible refine Sm.l_cont ?_
  | ((with_reducible refine Sm.o_name (sl1 := ?sl) ?e ?g ?_); (case e => simp); (case g => simp only [List.set_cons_succ, List.set_cons_zero]; rfl))
  | ((with_reducible refine Sm.o_mul ?e ?_); (case e => first | exact .inl (by decide) | exact .inr (by decide) | exact .inl (Sm.sm_of (by omega) (by omega)) | exact .inr (Sm.sm_of (by omega) (by omega))))
  | ((with_reducible refine Sm.o_mod ?e ?_); (case e => first | decide | omega))
  | ((with_reducible refine Sm.o_fdiv ?e ?g ?_); (case e => first | decide | omega); (case g => first | decide | omega))
  | with_reducible refine Sm.o_truthi ?_
  | with_reducible refine Sm.o_truthl ?_
  | with_reducible refine Sm.o_trutht ?_
  | with_reducible refine Sm.o_truthb ?_
  | with_reducible refine Sm.o_truthn ?_
  | ((with_reducible refine Sm.o_truths ?e ?_); (case e => first | decide | omega))
  | ((with_reducible refine Sm.o_catl ?e ?_); (case e => first | (simp; done) | (simp; omega)))
  | ((with_reducible refine Sm.o_app ?e ?_); (case e => first | omega | (simp; done) | (simp; omega)))
  | ((with_reducible refine Sm.o_rng1 ?e ?g ?_); (case e => omega); (case g => omega))
  | ((with_reducible refine Sm.o_rng2 ?e ?g ?a ?b ?_); (case e => omega); (case g => omega); (case a => omega); (case b => omega))
  | with_reducible refine Sm.o_itl ?_
  | with_reducible refine Sm.o_itt ?_
  | with_reducible refine Sm.o_iz Sm.p4 ?_
  | with_reducible refine Sm.o_iz Sm.p9 ?_
  | with_reducible refine Sm.o_iz Sm.p12 ?_
  | with_reducible refine Sm.o_iz Sm.p13 ?_
  | with_reducible refine Sm.o_iz Sm.p18 ?_
  | with_reducible refine Sm.o_iz Sm.p20 ?_
  | with_reducible refine Sm.o_iz Sm.p30 ?_
  | with_reducible refine Sm.o_iz Sm.p40 ?_
  | with_reducible refine Sm.o_some ?_
  | ((with_reducible refine Sm.o_iz (z := ?z) ?e ?_); (case e => first | assumption | rfl))
  | with_reducible refine Sm.b_true ?_
  | with_reducible refine Sm.b_false ?_
  | with_reducible refine Sm.b_neg ?_
  | ((with_reducible refine Sm.b_ist ?e ?_); (case e => rfl))
  | ((with_reducible refine Sm.b_isf ?e ?_); (case e => rfl))
  | ((with_reducible refine Sm.b_yes ?e ?_); (case e => first | rfl | decide | assumption | omega))
  | ((with_reducible refine Sm.b_no ?e ?_); (case e => first | decide | assumption | omega))
  | with_reducible refine Sm.b_dec (fun _ => ?_) (fun _ => ?_)
  | with_reducible refine Sm.b_var (fun _ => ?_) (fun _ => ?_)
  | ((with_reducible refine Sm.and_fit ?e ?_); (case e => first | (simp; done) | omega | (simp; omega)))
  | ((with_reducible refine Sm.and_len ?e ?_); (case e => first | rfl | (simp; done)))
  | ((with_reducible refine Sm.and_cls ?e ?_); (case e => first | rfl | assumption))
  | ((with_reducible refine Sm.and_atom ?e ?_); (case e => rfl))
  | with_reducible refine Sm.and_non ?_
  | with_reducible refine Sm.ex_str ?_
  | with_reducible refine Sm.ex_int ?_)
local macro_rules | `(tactic| array_get_dec) => `(tactic| repeat' array_mem_dec)
namespace K27
open PySem Sm
variable {S : Sto} {Q : D → Sto → Prop} {X : Exc → Sto → Prop}
theorem cell_sp {ns : List Int} {k : Int} (hk : 0 ≤ k) (h : ∀ v, Q (.int v) S) : wF F__law_cell [.lst (ns.map .int), .int k] S Q X := by
  refine o__law_cell ?_
  unfold m__law_cell
  array_get_dec
  · rename_i q
    refine o_ixM hk (by simpa using q) fun v hv => ?_
    array_get_dec
    exact h v
  · exact h 0
theorem mixed_sp {c k : Int} (hk : 0 ≤ k) (hk2 : k < 1000) (h : ∀ v, 0 ≤ v → Q (.int v) S) : wF F__law_mixed [.int c, .int k] S Q X := by
  refine o__law_mixed ?_
  unfold m__law_mixed
  array_get_dec
  exact h _ (by omega)
/-- draws below a size -/
theorem draws_sp {c z : Int} {n : Nat} (hn : n < 1000) (hz : 0 < z) (hz2 : z < 1000000000000000000) (h : ∀ l : List Int, l.length = n → (∀ x ∈ l, 0 ≤ x ∧ x < z) → Q (.lst (l.map .int)) S) : wF F__law_draws [.int c, .int n, .int z] S Q X := by
  refine o__law_draws ?_
  unfold m__law_draws
  array_get_dec
  refine l_inv (fun k sl S1 => S1 = S ∧ ∃ (l : List Int) (rest : Int) (od : Option D), l.length = k ∧ (∀ x ∈ l, 0 ≤ x ∧ x < z) ∧ sl = [some (.int c), some (.int n), some (.int z), some (.lst (l.map .int)), some (.int rest), od]) ⟨rfl, [], c, none, rfl, by simp, rfl⟩ (fun sl S1 hh => ?_) (fun i d sl S1 hd hh => ?_)
  · obtain ⟨rfl, l, rest, od, h1, h2, rfl⟩ := hh
    array_get_dec
    exact h l (by rw [h1]; simp [rng]) h2
  · obtain ⟨rfl, l, rest, od, h1, h2, rfl⟩ := hh
    obtain ⟨hi, rfl⟩ := rng_at hd
    have hin : i < n := by simpa using hi
    have nx : ∀ v : Int, 0 ≤ v % z ∧ v % z < z := fun v => ⟨Int.emod_nonneg _ (by omega), Int.emod_lt_of_pos _ hz⟩
    have fin : ∀ (v rest' : Int), ∃ (l' : List Int) (rest : Int) (od : Option D), l'.length = i + 1 ∧ (∀ x ∈ l', 0 ≤ x ∧ x < z) ∧ [some (D.int c), some (D.int n), some (D.int z), some (D.lst (l.map D.int ++ [D.int (v % z)])), some (D.int rest'), some (D.int i)] = [some (.int c), some (.int n), some (.int z), some (.lst (l'.map .int)), some (.int rest), od] := fun v rest' =>
      ⟨l ++ [v % z], rest', some (.int i), by simp [h1], fun x hx => by
        rcases List.mem_append.mp hx with hx | hx
        · exact h2 x hx
        · simp at hx; subst hx; exact nx v, by simp⟩
    unfold L0_law_draws
    array_get_dec
    all_goals first
      | exact ⟨rfl, fin _ _⟩
      | (refine mixed_sp (by omega) (by omega) fun v hv => ?_
         array_get_dec
         exact ⟨rfl, fin _ _⟩)
      | trace_state
theorem is_integer_sp {i : Int} (h : Q (.bl true) S) : wF F__law_is_integer [.int i] S Q X := by
  refine o__law_is_integer ?_
  unfold m__law_is_integer
  array_get_dec
  exact h
/-- plain data of a depth -/
def pd : Nat → D → Prop
  | 0, _ => False
  | _ + 1, .non => True
  | _ + 1, .bl _ => True
  | _ + 1, .int _ => True
  | _ + 1, .str _ => True
  | n + 1, .lst xs => xs.length < 1000000 ∧ ∀ x ∈ xs, pd n x
  | n + 1, .tup xs => xs.length < 1000000 ∧ ∀ x ∈ xs, pd n x
  | _ + 1, _ => False
theorem same_sp : ∀ {n : Nat} {d : D} {S : Sto} {Q : D → Sto → Prop} {X : Exc → Sto → Prop}, pd n d → Q (.bl true) S → wF (F__law_same n) [d, d] S Q X
  | 0, _, _, _, _, h, _ => h.elim
  | n + 1, d, S, Q, X, hd, h => by
    refine o__law_same ?_
    unfold m__law_same
    cases d with
    | non => array_get_dec; exact h
    | bl b => cases b <;> (array_get_dec; simpa using h)
    | int i =>
      array_get_dec
      refine is_integer_sp ?_
      array_get_dec
      simpa using h
    | str x => array_get_dec; simpa using h
    | lst xs =>
      have hx : ((xs.length : Nat) : Int) < 1000000000 := by have := hd.1; omega
      array_get_dec
      refine l_inv (fun k sl S1 => S1 = S ∧ ∃ od, sl = [some (.lst xs), some (.lst xs), od]) ⟨rfl, none, rfl⟩ (fun sl S1 hh => ?_) (fun i d sl S1 hd' hh => ?_)
      · obtain ⟨rfl, od, rfl⟩ := hh
        array_get_dec
        exact h
      · obtain ⟨rfl, od, rfl⟩ := hh
        obtain ⟨hi, rfl⟩ := rng_at hd'
        have hin : i < xs.length := by simpa using hi
        have e : fIx (.lst xs) (.int i) = some xs[i] := ix_lst (by simp [hin])
        unfold L0_law_same
        array_get_dec
        try refine o_iz e ?_
        array_get_dec
        try refine o_iz e ?_
        array_get_dec
        refine same_sp (hd.2 _ (List.getElem_mem _)) ?_
        array_get_dec
        exact ⟨rfl, _, rfl⟩
    | tup xs =>
      have hx : ((xs.length : Nat) : Int) < 1000000000 := by have := hd.1; omega
      array_get_dec
      refine l_inv (fun k sl S1 => S1 = S ∧ ∃ od, sl = [some (.tup xs), some (.tup xs), od]) ⟨rfl, none, rfl⟩ (fun sl S1 hh => ?_) (fun i d sl S1 hd' hh => ?_)
      · obtain ⟨rfl, od, rfl⟩ := hh
        array_get_dec
        exact h
      · obtain ⟨rfl, od, rfl⟩ := hh
        obtain ⟨hi, rfl⟩ := rng_at hd'
        have hin : i < xs.length := by simpa using hi
        have e : fIx (.tup xs) (.int i) = some xs[i] := ix_tup (by simp [hin])
        unfold L0_law_same
        array_get_dec
        try refine o_iz e ?_
        array_get_dec
        try refine o_iz e ?_
        array_get_dec
        refine same_sp (hd.2 _ (List.getElem_mem _)) ?_
        array_get_dec
        exact ⟨rfl, _, rfl⟩
    | _ => exact hd.elim
end K27
end
section
set_option Elab.async false
set_option linter.all false
set_option maxRecDepth 100000
set_option maxHeartbeats 4000000
local macro_rules | `(tactic| array_mem_dec) => `(tactic| first
  | with_reducible refine Sm.s_sq ?_
  | with_reducible refine Sm.s_put ?_
  | with_reducible refine Sm.s_own ?_
  | with_reducible refine Sm.s_if ?_
  | with_reducible refine Sm.s_ret ?_
  | with_reducible refine Sm.s_skip ?_
  | with_reducible refine Sm.s_do ?_
  | with_reducible refine Sm.s_retN ?_
  | with_reducible refine Sm.s_for ?_
  | with_reducible refine Sm.s_raise ?_
  | with_reducible refine Sm.s_setF ?_
  | with_reducible refine Sm.s_brk ?_
  | with_reducible refine Sm.s_cont ?_
  | ((with_reducible refine Sm.s_ownS (d := ?d) ?e ?l ?_); (case e => rfl); (case l => rfl))
  | ((with_reducible refine Sm.s_setIx (xs := ?xs) ?e ?_); (case e => intro _; rfl))
  | with_reducible refine Sm.w_C ?_
  | ((with_reducible refine Sm.w_var (d := ?d) ?e ?_); (case e => rfl))
  | with_reducible refine Sm.w_op ?_
  | with_reducible refine Sm.w_un ?_
  | with_reducible refine Sm.w_cons ?_
  | with_reducible refine Sm.w_nil ?_
  | with_reducible refine Sm.w_lst ?_
  | with_reducible refine Sm.w_tup ?_
  | with_reducible refine Sm.w_cal ?_
  | with_reducible refine Sm.w_call ?_
  | with_reducible refine Sm.w_callV ?_
  | with_reducible refine Sm.w_meth ?_
  | with_reducible refine Sm.w_fld ?_
  | with_reducible refine Sm.w_prp ?_
  | with_reducible refine Sm.w_mk ?_
  | with_reducible refine Sm.w_perm ?_
  | with_reducible refine Sm.w_m1 ?_
  | with_reducible refine Sm.w_sl ?_
  | with_reducible refine Sm.w_part0 ?_
  | with_reducible refine Sm.w_part ?_
  | with_reducible refine Sm.w_and ?_
  | with_reducible refine Sm.w_or ?_
  | with_reducible refine Sm.w_not ?_
  | with_reducible refine Sm.w_ife ?_
  | with_reducible refine Sm.w_seq ?_
  | with_reducible refine Sm.w_rng ?_
  | with_reducible refine Sm.l_nil ?_
  | with_reducible refine Sm.l_cons ?_
  | with_reducible refine Sm.o_tupT ?_
  | with_reducible refine Sm.o_sets0 ?_
  | with_reducible refine Sm.o_sets ?_
  | with_reducible refine Sm.w_seqA ?_
  | with_reducible refine Sm.o_itAl ?_
  | with_reducible refine Sm.o_itAt ?_
  | with_reducible refine Sm.o_itAs ?_
  | with_reducible refine Sm.w_enum ?_
  | with_reducible refine Sm.o_enum ?_
  | with_reducible refine Sm.w_zip ?_
  | with_reducible refine Sm.o_zipl ?_
  | with_reducible refine Sm.o_zipt ?_
  | with_reducible refine Sm.w_idx ?_
  | with_reducible refine Sm.ex_lst ?_
  | with_reducible refine Sm.w_sel ?_
  | with_reducible refine Sm.w_m0 ?_
  | with_reducible refine Sm.w_lrg ?_
  | with_reducible refine Sm.w_trg ?_
  | with_reducible refine Sm.w_iso ?_
  | with_reducible refine Sm.s_try ?_
  | with_reducible refine Sm.rt_ret ?_
  | with_reducible refine Sm.rt_err ?_
  | with_reducible refine Sm.ru_ret ?_
  | ((with_reducible refine Sm.h_yes ?e ?g ?_); (case e => rfl); (case g => first | rfl | (simp; done)))
  | ((with_reducible refine Sm.h_no ?e ?_); (case e => rfl))
  | with_reducible refine Sm.h_out ?_
  | ((with_reducible refine Sm.w_xf (k := ?k) (d := ?d) ?a ?e ?g ?_); (case a => rfl); (case e => rfl); (case g => rfl))
  | ((with_reducible refine Sm.w_isX (k := ?k) ?a ?e ?_); (case a => rfl); (case e => rfl))
  | with_reducible refine Sm.o_wrA ?_
  | ((with_reducible refine Sm.o_rdA (k := ?k) (d := ?d) ?e ?g ?_); (case e => rfl); (case g => rfl))
  | ((with_reducible refine Sm.o_strI ?e ?g ?_); (case e => omega); (case g => omega))
  | ((with_reducible refine Sm.o_lenS ?e ?_); (case e => omega))
  | ((with_reducible refine Sm.o_slS ?e ?_); (case e => omega))
  | with_reducible refine Sm.o_nis ?_
  | with_reducible refine Sm.o_ins ?_
  | with_reducible refine Sm.t_tst ?_
  | with_reducible refine Sm.t_tru ?_
  | with_reducible refine Sm.t_and ?_
  | with_reducible refine Sm.t_or ?_
  | with_reducible refine Sm.t_not ?_
  | with_reducible refine Sm.t_yes ?_
  | with_reducible refine Sm.r_ret ?_
  | with_reducible refine Sm.r_err ?_
  | with_reducible refine Sm.l_ret ?_
  | with_reducible refine Sm.l_err ?_
  | with_reducible refine Sm.l_brk ?_
  | with_reducible refine Sm.l_cont ?_
  | ((with_reducible refine Sm.o_name (sl1 := ?sl) ?e ?g ?_); (case e => simp); (case g => simp only [List.set_cons_succ, List.set_cons_zero]; rfl))
  | ((with_reducible refine Sm.o_mul ?e ?_); (case e => first | exact .inl (by decide) | exact .inr (by decide) | exact .inl (Sm.sm_of (by omega) (by omega)) | exact .inr (Sm.sm_of (by omega) (by omega))))
  | ((with_reducible refine Sm.o_mod ?e ?_); (case e => first | decide | omega))
  | ((with_reducible refine Sm.o_fdiv ?e ?g ?_); (case e => first | decide | omega); (case g => first | decide | omega))
  | with_reducible refine Sm.o_truthi ?_
  | with_reducible refine Sm.o_truthl ?_
  | with_reducible refine Sm.o_trutht ?_
  | with_reducible refine Sm.o_truthb ?_
  | with_reducible refine Sm.o_truthn ?_
  | ((with_reducible refine Sm.o_truths ?e ?_); (case e => first | decide | omega))
  | ((with_reducible refine Sm.o_catl ?e ?_); (case e => first | (simp; done) | (simp; omega)))
  | ((with_reducible refine Sm.o_app ?e ?_); (case e => first | omega | (simp; done) | (simp; omega)))
  | ((with_reducible refine Sm.o_rng1 ?e ?g ?_); (case e => omega); (case g => omega))
  | ((with_reducible refine Sm.o_rng2 ?e ?g ?a ?b ?_); (case e => omega); (case g => omega); (case a => omega); (case b => omega))
  | with_reducible refine Sm.o_itl ?_
  | with_reducible refine Sm.o_itt ?_
  | with_reducible refine Sm.o_iz Sm.p4 ?_
  | with_reducible refine Sm.o_iz Sm.p9 ?_
  | with_reducible refine Sm.o_iz Sm.p12 ?_
  | with_reducible refine Sm.o_iz Sm.p13 ?_
  | with_reducible refine Sm.o_iz Sm.p18 ?_
  | with_reducible refine Sm.o_iz Sm.p20 ?_
  | with_reducible refine Sm.o_iz Sm.p30 ?_
  | with_reducible refine Sm.o_iz Sm.p40 ?_
  | with_reducible refine Sm.o_some ?_
  | ((with_reducible refine Sm.o_iz (z := ?z) ?e ?_); (case e => first | assumption | rfl))
  | with_reducible refine Sm.b_true ?_
  | with_reducible refine Sm.b_false ?_
  | with_reducible refine Sm.b_neg ?_
  | ((with_reducible refine Sm.b_ist ?e ?_); (case e => rfl))
  | ((with_reducible refine Sm.b_isf ?e ?_); (case e => rfl))
  | ((with_reducible refine Sm.b_yes ?e ?_); (case e => first | rfl | decide | assumption | omega))
  | ((with_reducible refine Sm.b_no ?e ?_); (case e => first | decide | assumption | omega))
  | with_reducible refine Sm.b_dec (fun _ => ?_) (fun _ => ?_)
  | with_reducible refine Sm.b_var (fun _ => ?_) (fun _ => ?_)
  | ((with_reducible refine Sm.and_fit ?e ?_); (case e => first | (simp; done) | omega | (simp; omega)))
  | ((with_reducible refine Sm.and_len ?e ?_); (case e => first | rfl | (simp; done)))
  | ((with_reducible refine Sm.and_cls ?e ?_); (case e => first | rfl | assumption))
  | ((with_reducible refine Sm.and_atom ?e ?_); (case e => rfl))
  | with_reducible refine Sm.and_non ?_
  | with_reducible refine Sm.ex_str ?_
  | with_reducible refine Sm.ex_int ?_)
local macro_rules | `(tactic| array_get_dec) => `(tactic| repeat' array_mem_dec)
namespace K27
open PySem Sm
/-! rows, plainly -/
def mk3 (l b r : Int) : Str := if l = r then (if b = l then "quiet" else "odd") else if b = l ∨ b = r then "edge" else "strife"
def kat (ks : List Int) (b : Int) : Int := ks.getD b.toNat 0
def rg (n : Nat) : List Int := (List.range n).map fun i : Nat => (i : Int)
def stOf (n : Nat) (T : List Int) : List Int := (rg n).filter fun b => !decide (b ∈ T)
def mkAt (ks st : List Int) (i : Nat) : Str := mk3 (kat ks (st.getD (i - 1) 0)) (kat ks (st.getD i 0)) (kat ks (st.getD (i + 1) 0))
def mkB (ks st : List Int) (b : Int) : Str := mkAt ks st (st.idxOf b)
/-- the inner ones -/
def inn (st : List Int) : List Int := (st.drop 1).take (st.length - 2)
def alw (ks st : List Int) : List Int := (inn st).filter fun b => !decide (mkB ks st b = "quiet")
/-- the taken beads -/
structure Tk (n : Nat) (T : List Int) : Prop where
  nd : T.Nodup
  inn : ∀ b ∈ T, 0 < b ∧ b < n - 1
theorem rg_mem {n : Nat} {b : Int} : b ∈ rg n ↔ 0 ≤ b ∧ b < n := by
  unfold rg
  rw [List.mem_map]
  exact ⟨fun ⟨i, hi, e⟩ => by have := List.mem_range.mp hi; omega, fun h => ⟨b.toNat, List.mem_range.mpr (by omega), by omega⟩⟩
theorem st_mem {n : Nat} {T : List Int} {b : Int} : b ∈ stOf n T ↔ (0 ≤ b ∧ b < n) ∧ b ∉ T := by
  unfold stOf
  rw [List.mem_filter, rg_mem]
  simp
theorem rg_lt {n : Nat} : (rg n).Pairwise (· < ·) := by
  unfold rg
  rw [List.pairwise_map]
  exact List.pairwise_lt_range.imp fun h => by omega
theorem st_lt {n : Nat} {T : List Int} : (stOf n T).Pairwise (· < ·) := rg_lt.filter _
theorem st_nd {n : Nat} {T : List Int} : (stOf n T).Nodup := st_lt.imp fun h => by omega
theorem rg_nil {n : Nat} : stOf n [] = rg n := by
  unfold stOf
  rw [List.filter_eq_self]
  simp
theorem st_take {n : Nat} {T : List Int} {b : Int} : (stOf n T).filter (fun x => !decide (x = b)) = stOf n (T ++ [b]) := by
  unfold stOf
  rw [List.filter_filter]
  refine List.filter_congr fun x _ => ?_
  simp [not_or, Bool.and_comm]
theorem st_len {n : Nat} {T : List Int} : (stOf n T).length ≤ n := by
  unfold stOf
  refine Nat.le_trans (List.length_filter_le _ _) ?_
  simp [rg]
theorem st_back {n : Nat} {T : List Int} {b : Int} (h : Tk n (T ++ [b])) : (stOf n (T ++ [b]) ++ [b]).mergeSort (· ≤ ·) = stOf n T := by
  have hb := h.inn b (by simp)
  have nd := h.nd
  rw [List.nodup_append] at nd
  refine sort_one ?_ (st_lt.imp fun h => by omega)
  refine (List.perm_ext_iff_of_nodup st_nd ?_).mpr fun x => ?_
  · rw [List.nodup_append]
    refine ⟨st_nd, by simp, fun x hx y hy e => ?_⟩
    simp at hy
    subst hy e
    exact (st_mem.mp hx).2 (by simp)
  · rw [List.mem_append, st_mem, st_mem]
    simp only [List.mem_append, List.mem_singleton, not_or]
    constructor
    · rintro ⟨h1, h2⟩
      by_cases e : x = b
      · exact .inr e
      · exact .inl ⟨h1, h2, e⟩
    · rintro (⟨h1, h2, h3⟩ | rfl)
      · exact ⟨h1, h2⟩
      · exact ⟨⟨by omega, by omega⟩, fun q => nd.2.2 x q x (by simp) rfl⟩
theorem st_sort {n : Nat} {T : List Int} : (stOf n T).mergeSort (· ≤ ·) = stOf n T := sort_one (List.Perm.refl _) (st_lt.imp fun h => by omega)
theorem Tk.pre {n : Nat} {T : List Int} {b : Int} (h : Tk n (T ++ [b])) : Tk n T := ⟨(List.nodup_append.mp h.nd).1, fun x hx => h.inn x (by simp [hx])⟩
/-- the ends stand -/
theorem st_ends {n : Nat} {T : List Int} (hn : 2 ≤ n) (h : Tk n T) : ∃ l, stOf n T = 0 :: (l ++ [(n : Int) - 1]) ∧ inn (stOf n T) = l := by
  obtain ⟨m, rfl⟩ : ∃ m, n = m + 2 := ⟨n - 2, by omega⟩
  have e : rg (m + 2) = 0 :: ((List.range m).map (fun i : Nat => ((i + 1 : Nat) : Int)) ++ [((m + 1 : Nat) : Int)]) := by
    unfold rg
    rw [List.range_succ, List.range_succ_eq_map]
    simp [Function.comp_def]
  have h0 : (0 : Int) ∉ T := fun q => by have := h.inn _ q; omega
  have h1 : ((m + 1 : Nat) : Int) ∉ T := fun q => by have := h.inn _ q; omega
  have e2 : stOf (m + 2) T = 0 :: (((List.range m).map (fun i : Nat => ((i + 1 : Nat) : Int))).filter (fun b => !decide (b ∈ T)) ++ [((m + 2 : Nat) : Int) - 1]) := by
    unfold stOf
    rw [e, List.filter_cons, List.filter_append, List.filter_cons]
    have h2 : (↑m + 1 : Int) ∉ T := by simpa using h1
    simp [h0, h2]
    omega
  refine ⟨_, e2, ?_⟩
  rw [e2]
  unfold inn
  simp
end K27
end
section
set_option Elab.async false
set_option linter.all false
set_option maxRecDepth 100000
set_option maxHeartbeats 4000000
local macro_rules | `(tactic| array_mem_dec) => `(tactic| first
  | with_reducible refine Sm.s_sq ?_
  | with_reducible refine Sm.s_put ?_
  | with_reducible refine Sm.s_own ?_
  | with_reducible refine Sm.s_if ?_
  | with_reducible refine Sm.s_ret ?_
  | with_reducible refine Sm.s_skip ?_
  | with_reducible refine Sm.s_do ?_
  | with_reducible refine Sm.s_retN ?_
  | with_reducible refine Sm.s_for ?_
  | with_reducible refine Sm.s_raise ?_
  | with_reducible refine Sm.s_setF ?_
  | with_reducible refine Sm.s_brk ?_
  | with_reducible refine Sm.s_cont ?_
  | ((with_reducible refine Sm.s_ownS (d := ?d) ?e ?l ?_); (case e => rfl); (case l => rfl))
  | ((with_reducible refine Sm.s_setIx (xs := ?xs) ?e ?_); (case e => intro _; rfl))
  | with_reducible refine Sm.w_C ?_
  | ((with_reducible refine Sm.w_var (d := ?d) ?e ?_); (case e => rfl))
  | with_reducible refine Sm.w_op ?_
  | with_reducible refine Sm.w_un ?_
  | with_reducible refine Sm.w_cons ?_
  | with_reducible refine Sm.w_nil ?_
  | with_reducible refine Sm.w_lst ?_
  | with_reducible refine Sm.w_tup ?_
  | with_reducible refine Sm.w_cal ?_
  | with_reducible refine Sm.w_call ?_
  | with_reducible refine Sm.w_callV ?_
  | with_reducible refine Sm.w_meth ?_
  | with_reducible refine Sm.w_fld ?_
  | with_reducible refine Sm.w_prp ?_
  | with_reducible refine Sm.w_mk ?_
  | with_reducible refine Sm.w_perm ?_
  | with_reducible refine Sm.w_m1 ?_
  | with_reducible refine Sm.w_sl ?_
  | with_reducible refine Sm.w_part0 ?_
  | with_reducible refine Sm.w_part ?_
  | with_reducible refine Sm.w_and ?_
  | with_reducible refine Sm.w_or ?_
  | with_reducible refine Sm.w_not ?_
  | with_reducible refine Sm.w_ife ?_
  | with_reducible refine Sm.w_seq ?_
  | with_reducible refine Sm.w_rng ?_
  | with_reducible refine Sm.l_nil ?_
  | with_reducible refine Sm.l_cons ?_
  | with_reducible refine Sm.o_tupT ?_
  | with_reducible refine Sm.o_sets0 ?_
  | with_reducible refine Sm.o_sets ?_
  | with_reducible refine Sm.w_seqA ?_
  | with_reducible refine Sm.o_itAl ?_
  | with_reducible refine Sm.o_itAt ?_
  | with_reducible refine Sm.o_itAs ?_
  | with_reducible refine Sm.w_enum ?_
  | with_reducible refine Sm.o_enum ?_
  | with_reducible refine Sm.w_zip ?_
  | with_reducible refine Sm.o_zipl ?_
  | with_reducible refine Sm.o_zipt ?_
  | with_reducible refine Sm.w_idx ?_
  | with_reducible refine Sm.ex_lst ?_
  | with_reducible refine Sm.w_sel ?_
  | with_reducible refine Sm.w_m0 ?_
  | with_reducible refine Sm.w_lrg ?_
  | with_reducible refine Sm.w_trg ?_
  | with_reducible refine Sm.w_iso ?_
  | with_reducible refine Sm.s_try ?_
  | with_reducible refine Sm.rt_ret ?_
  | with_reducible refine Sm.rt_err ?_
  | with_reducible refine Sm.ru_ret ?_
  | ((with_reducible refine Sm.h_yes ?e ?g ?_); (case e => rfl); (case g => first | rfl | (simp; done)))
  | ((with_reducible refine Sm.h_no ?e ?_); (case e => rfl))
  | with_reducible refine Sm.h_out ?_
  | ((with_reducible refine Sm.w_xf (k := ?k) (d := ?d) ?a ?e ?g ?_); (case a => rfl); (case e => rfl); (case g => rfl))
  | ((with_reducible refine Sm.w_isX (k := ?k) ?a ?e ?_); (case a => rfl); (case e => rfl))
  | with_reducible refine Sm.o_wrA ?_
  | ((with_reducible refine Sm.o_rdA (k := ?k) (d := ?d) ?e ?g ?_); (case e => rfl); (case g => rfl))
  | ((with_reducible refine Sm.o_strI ?e ?g ?_); (case e => omega); (case g => omega))
  | ((with_reducible refine Sm.o_lenS ?e ?_); (case e => omega))
  | ((with_reducible refine Sm.o_slS ?e ?_); (case e => omega))
  | with_reducible refine Sm.o_nis ?_
  | with_reducible refine Sm.o_ins ?_
  | with_reducible refine Sm.t_tst ?_
  | with_reducible refine Sm.t_tru ?_
  | with_reducible refine Sm.t_and ?_
  | with_reducible refine Sm.t_or ?_
  | with_reducible refine Sm.t_not ?_
  | with_reducible refine Sm.t_yes ?_
  | with_reducible refine Sm.r_ret ?_
  | with_reducible refine Sm.r_err ?_
  | with_reducible refine Sm.l_ret ?_
  | with_reducible refine Sm.l_err ?_
  | with_reducible refine Sm.l_brk ?_
  | with_reducible refine Sm.l_cont ?_
  | ((with_reducible refine Sm.o_name (sl1 := ?sl) ?e ?g ?_); (case e => simp); (case g => simp only [List.set_cons_succ, List.set_cons_zero]; rfl))
  | ((with_reducible refine Sm.o_mul ?e ?_); (case e => first | exact .inl (by decide) | exact .inr (by decide) | exact .inl (Sm.sm_of (by omega) (by omega)) | exact .inr (Sm.sm_of (by omega) (by omega))))
  | ((with_reducible refine Sm.o_mod ?e ?_); (case e => first | decide | omega))
  | ((with_reducible refine Sm.o_fdiv ?e ?g ?_); (case e => first | decide | omega); (case g => first | decide | omega))
  | with_reducible refine Sm.o_truthi ?_
  | with_reducible refine Sm.o_truthl ?_
  | with_reducible refine Sm.o_trutht ?_
  | with_reducible refine Sm.o_truthb ?_
  | with_reducible refine Sm.o_truthn ?_
  | ((with_reducible refine Sm.o_truths ?e ?_); (case e => first | decide | omega))
  | ((with_reducible refine Sm.o_catl ?e ?_); (case e => first | (simp; done) | (simp; omega)))
  | ((with_reducible refine Sm.o_app ?e ?_); (case e => first | omega | (simp; done) | (simp; omega)))
  | ((with_reducible refine Sm.o_rng1 ?e ?g ?_); (case e => omega); (case g => omega))
  | ((with_reducible refine Sm.o_rng2 ?e ?g ?a ?b ?_); (case e => omega); (case g => omega); (case a => omega); (case b => omega))
  | with_reducible refine Sm.o_itl ?_
  | with_reducible refine Sm.o_itt ?_
  | with_reducible refine Sm.o_iz Sm.p4 ?_
  | with_reducible refine Sm.o_iz Sm.p9 ?_
  | with_reducible refine Sm.o_iz Sm.p12 ?_
  | with_reducible refine Sm.o_iz Sm.p13 ?_
  | with_reducible refine Sm.o_iz Sm.p18 ?_
  | with_reducible refine Sm.o_iz Sm.p20 ?_
  | with_reducible refine Sm.o_iz Sm.p30 ?_
  | with_reducible refine Sm.o_iz Sm.p40 ?_
  | with_reducible refine Sm.o_some ?_
  | ((with_reducible refine Sm.o_iz (z := ?z) ?e ?_); (case e => first | assumption | rfl))
  | with_reducible refine Sm.b_true ?_
  | with_reducible refine Sm.b_false ?_
  | with_reducible refine Sm.b_neg ?_
  | ((with_reducible refine Sm.b_ist ?e ?_); (case e => rfl))
  | ((with_reducible refine Sm.b_isf ?e ?_); (case e => rfl))
  | ((with_reducible refine Sm.b_yes ?e ?_); (case e => first | rfl | decide | assumption | omega))
  | ((with_reducible refine Sm.b_no ?e ?_); (case e => first | decide | assumption | omega))
  | with_reducible refine Sm.b_dec (fun _ => ?_) (fun _ => ?_)
  | with_reducible refine Sm.b_var (fun _ => ?_) (fun _ => ?_)
  | ((with_reducible refine Sm.and_fit ?e ?_); (case e => first | (simp; done) | omega | (simp; omega)))
  | ((with_reducible refine Sm.and_len ?e ?_); (case e => first | rfl | (simp; done)))
  | ((with_reducible refine Sm.and_cls ?e ?_); (case e => first | rfl | assumption))
  | ((with_reducible refine Sm.and_atom ?e ?_); (case e => rfl))
  | with_reducible refine Sm.and_non ?_
  | with_reducible refine Sm.ex_str ?_
  | with_reducible refine Sm.ex_int ?_)
local macro_rules | `(tactic| array_get_dec) => `(tactic| repeat' array_mem_dec)
namespace K27
open PySem Sm
variable {S : Sto} {Q : D → Sto → Prop} {X : Exc → Sto → Prop}
abbrev iD (l : List Int) : D := .lst (l.map .int)
theorem law_mark_sp {l b r : Int} (h : Q (.str (mk3 l b r)) S) : wF F__law_mark [.int l, .int b, .int r] S Q X := by
  refine o__law_mark ?_
  unfold m__law_mark
  unfold mk3 at h
  array_get_dec
  all_goals (simp_all; done)
theorem mark_of_sp {l b r : Int} (h : Q (.str (mk3 l b r)) S) : wF F_mark_of [.int l, .int b, .int r] S Q X := by
  refine o_mark_of ?_
  unfold m_mark_of
  unfold mk3 at h
  array_get_dec
  all_goals (simp_all; done)
theorem at_getD {l : List Int} {i : Nat} {v : Int} (h : l[i]? = some v) : v = l.getD i 0 := by
  rw [List.getD_eq_getElem?_getD, h]; rfl
theorem getD_mem {l : List Int} {i : Nat} (h : i < l.length) : l.getD i 0 ∈ l := by
  rw [List.getD_eq_getElem?_getD, List.getElem?_eq_getElem h]
  exact List.getElem_mem h
/-- an item by a place that is told -/
theorem o_ixg {l : List Int} {k : Int} {P : D → Prop} (h0 : 0 ≤ k) (h1 : k < l.length) (h : P (.int (l.getD k.toNat 0))) : wO (fIx (iD l) (.int k)) P := o_ixM h0 h1 fun v hv => by rw [at_getD hv]; exact h
theorem o_ixgt {l : List Int} {k : Int} {P : D → Prop} (h0 : 0 ≤ k) (h1 : k < l.length) (h : P (.int (l.getD k.toNat 0))) : wO (fIx (.tup (l.map .int)) (.int k)) P := o_ixg h0 h1 h
/-- the beads that stand are beads -/
def Ok (ks st : List Int) : Prop := ∀ b ∈ st, 0 ≤ b ∧ b < ks.length
theorem mark_at_sp {ks st : List Int} {i : Nat} (ho : Ok ks st) (h1 : 1 ≤ i) (h2 : i + 1 < st.length) (h : Q (.str (mkAt ks st i)) S) : wF F__law_mark_at [iD ks, iD st, .int i] S Q X := by
  refine o__law_mark_at ?_
  unfold m__law_mark_at
  array_get_dec
  refine o_ixg (by omega) (by omega) ?_
  have q0 := ho _ (getD_mem (l := st) (i := i - 1) (by omega))
  have q1 := ho _ (getD_mem (l := st) (i := i) (by omega))
  have q2 := ho _ (getD_mem (l := st) (i := i + 1) (by omega))
  rw [show ((i : Int) - 1).toNat = i - 1 by omega]
  array_get_dec
  refine o_ixg (by omega) (by omega) ?_
  array_get_dec
  refine o_ixg (by omega) (by omega) ?_
  rw [show ((i : Int)).toNat = i by omega]
  array_get_dec
  refine o_ixg (by omega) (by omega) ?_
  array_get_dec
  refine o_ixg (by omega) (by omega) ?_
  rw [show ((i : Int) + 1).toNat = i + 1 by omega]
  array_get_dec
  refine o_ixg (by omega) (by omega) ?_
  array_get_dec
  refine law_mark_sp ?_
  array_get_dec
  exact h
theorem inn_at {st : List Int} {i : Nat} {b : Int} (h : (inn st)[i]? = some b) : i + 2 < st.length ∧ b = st.getD (i + 1) 0 := by
  unfold inn at h
  rw [List.getElem?_take] at h
  split at h
  · rename_i hi
    refine ⟨by omega, ?_⟩
    rw [List.getElem?_drop] at h
    rw [show i + 1 = 1 + i by omega]
    exact at_getD h
  · cases h
theorem idx_at {st : List Int} (hn : st.Nodup) {i : Nat} (h : i < st.length) : st.idxOf (st.getD i 0) = i := by
  rw [List.getD_eq_getElem?_getD, List.getElem?_eq_getElem h]
  exact hn.idxOf_getElem i h
theorem inn_map {st : List Int} (h : 2 ≤ st.length) : (List.range (st.length - 2)).map (fun j => st.getD (j + 1) 0) = inn st := by
  refine List.ext_getElem? fun i => ?_
  rw [List.getElem?_map]
  by_cases q : i < st.length - 2
  · rw [List.getElem?_range q]
    unfold inn
    rw [List.getElem?_take, if_pos q, List.getElem?_drop, List.getElem?_eq_getElem (by omega)]
    show some (st.getD (i + 1) 0) = _
    rw [List.getD_eq_getElem?_getD, List.getElem?_eq_getElem (by omega)]
    simp [Nat.add_comm]
  · rw [List.getElem?_eq_none (by simp; omega), List.getElem?_eq_none (by unfold inn; simp; omega)]
    rfl
theorem rng_is {n : Nat} : rng 1 n = (List.range n).map fun j : Nat => D.int ((j : Int) + 1) := by
  unfold rng
  refine List.map_congr_left fun j _ => ?_
  rw [Int.add_comm]
theorem allowed_sp {ks st : List Int} (ho : Ok ks st) (hn : st.Nodup) (h2 : 2 ≤ st.length) (h3 : st.length ≤ 100) (h : Q (iD (alw ks st)) S) : wF F__law_allowed [iD ks, iD st] S Q X := by
  refine o__law_allowed ?_
  unfold m__law_allowed
  array_get_dec
  refine w_lcF (f := fun j : Nat => D.int ((j : Int) + 1)) (List.range (st.length - 2)) (fun j => !decide (mkAt ks st (j + 1) = "quiet")) (fun j => .int (st.getD (j + 1) 0)) (fun x y e => by injection e with e; omega) ?_
  array_get_dec
  rw [List.length_map]
  array_get_dec
  refine ⟨?_, by simp; omega, fun i x hx => ?_, ?_⟩
  · rw [← rng_is]
    congr 1
    all_goals omega
  · obtain ⟨hx1, rfl⟩ : i < st.length - 2 ∧ i = x := by
      rw [List.getElem?_eq_some_iff] at hx
      obtain ⟨h, e⟩ := hx
      simp at h e
      exact ⟨h, e⟩
    show wO (tName 2 _ [_, _, none]) _
    array_get_dec
    unfold CT0_law_allowed
    array_get_dec
    rw [show ((i : Int) + 1) = ((i + 1 : Nat) : Int) by omega]
    refine mark_at_sp ho (by omega) (by omega) ?_
    array_get_dec
    · exact ⟨rfl, by simp_all⟩
    · refine ⟨rfl, ?_⟩
      unfold CE1_law_allowed
      array_get_dec
      refine o_ixg (by omega) (by omega) ?_
      rw [show (((i + 1 : Nat) : Int)).toNat = i + 1 by omega]
      exact ⟨rfl, by simp_all, rfl⟩
  · array_get_dec
    rw [show (((List.range (st.length - 2)).filter fun j => !decide (mkAt ks st (j + 1) = "quiet")).map fun j => D.int (st.getD (j + 1) 0)) = (alw ks st).map .int by
      unfold alw
      rw [← inn_map h2, List.filter_map, List.map_map]
      congr 1
      refine List.filter_congr fun j hj => ?_
      have := List.mem_range.mp hj
      show _ = !decide (mkAt ks st (st.idxOf (st.getD (j + 1) 0)) = _)
      rw [idx_at hn (by omega)]]
    exact h
end K27
end
section
set_option Elab.async false
set_option linter.all false
set_option maxRecDepth 100000
set_option maxHeartbeats 4000000
local macro_rules | `(tactic| array_mem_dec) => `(tactic| first
  | with_reducible refine Sm.s_sq ?_
  | with_reducible refine Sm.s_put ?_
  | with_reducible refine Sm.s_own ?_
  | with_reducible refine Sm.s_if ?_
  | with_reducible refine Sm.s_ret ?_
  | with_reducible refine Sm.s_skip ?_
  | with_reducible refine Sm.s_do ?_
  | with_reducible refine Sm.s_retN ?_
  | with_reducible refine Sm.s_for ?_
  | with_reducible refine Sm.s_raise ?_
  | with_reducible refine Sm.s_setF ?_
  | with_reducible refine Sm.s_brk ?_
  | with_reducible refine Sm.s_cont ?_
  | ((with_reducible refine Sm.s_ownS (d := ?d) ?e ?l ?_); (case e => rfl); (case l => rfl))
  | ((with_reducible refine Sm.s_setIx (xs := ?xs) ?e ?_); (case e => intro _; rfl))
  | with_reducible refine Sm.w_C ?_
  | ((with_reducible refine Sm.w_var (d := ?d) ?e ?_); (case e => rfl))
  | with_reducible refine Sm.w_op ?_
  | with_reducible refine Sm.w_un ?_
  | with_reducible refine Sm.w_cons ?_
  | with_reducible refine Sm.w_nil ?_
  | with_reducible refine Sm.w_lst ?_
  | with_reducible refine Sm.w_tup ?_
  | with_reducible refine Sm.w_cal ?_
  | with_reducible refine Sm.w_call ?_
  | with_reducible refine Sm.w_callV ?_
  | with_reducible refine Sm.w_meth ?_
  | with_reducible refine Sm.w_fld ?_
  | with_reducible refine Sm.w_prp ?_
  | with_reducible refine Sm.w_mk ?_
  | with_reducible refine Sm.w_perm ?_
  | with_reducible refine Sm.w_m1 ?_
  | with_reducible refine Sm.w_sl ?_
  | with_reducible refine Sm.w_part0 ?_
  | with_reducible refine Sm.w_part ?_
  | with_reducible refine Sm.w_and ?_
  | with_reducible refine Sm.w_or ?_
  | with_reducible refine Sm.w_not ?_
  | with_reducible refine Sm.w_ife ?_
  | with_reducible refine Sm.w_seq ?_
  | with_reducible refine Sm.w_rng ?_
  | with_reducible refine Sm.l_nil ?_
  | with_reducible refine Sm.l_cons ?_
  | with_reducible refine Sm.o_tupT ?_
  | with_reducible refine Sm.o_sets0 ?_
  | with_reducible refine Sm.o_sets ?_
  | with_reducible refine Sm.w_seqA ?_
  | with_reducible refine Sm.o_itAl ?_
  | with_reducible refine Sm.o_itAt ?_
  | with_reducible refine Sm.o_itAs ?_
  | with_reducible refine Sm.w_enum ?_
  | with_reducible refine Sm.o_enum ?_
  | with_reducible refine Sm.w_zip ?_
  | with_reducible refine Sm.o_zipl ?_
  | with_reducible refine Sm.o_zipt ?_
  | with_reducible refine Sm.w_idx ?_
  | with_reducible refine Sm.ex_lst ?_
  | with_reducible refine Sm.w_sel ?_
  | with_reducible refine Sm.w_m0 ?_
  | with_reducible refine Sm.w_lrg ?_
  | with_reducible refine Sm.w_trg ?_
  | with_reducible refine Sm.w_iso ?_
  | with_reducible refine Sm.s_try ?_
  | with_reducible refine Sm.rt_ret ?_
  | with_reducible refine Sm.rt_err ?_
  | with_reducible refine Sm.ru_ret ?_
  | ((with_reducible refine Sm.h_yes ?e ?g ?_); (case e => rfl); (case g => first | rfl | (simp; done)))
  | ((with_reducible refine Sm.h_no ?e ?_); (case e => rfl))
  | with_reducible refine Sm.h_out ?_
  | ((with_reducible refine Sm.w_xf (k := ?k) (d := ?d) ?a ?e ?g ?_); (case a => rfl); (case e => rfl); (case g => rfl))
  | ((with_reducible refine Sm.w_isX (k := ?k) ?a ?e ?_); (case a => rfl); (case e => rfl))
  | with_reducible refine Sm.o_wrA ?_
  | ((with_reducible refine Sm.o_rdA (k := ?k) (d := ?d) ?e ?g ?_); (case e => rfl); (case g => rfl))
  | ((with_reducible refine Sm.o_strI ?e ?g ?_); (case e => omega); (case g => omega))
  | ((with_reducible refine Sm.o_lenS ?e ?_); (case e => omega))
  | ((with_reducible refine Sm.o_slS ?e ?_); (case e => omega))
  | with_reducible refine Sm.o_nis ?_
  | with_reducible refine Sm.o_ins ?_
  | with_reducible refine Sm.t_tst ?_
  | with_reducible refine Sm.t_tru ?_
  | with_reducible refine Sm.t_and ?_
  | with_reducible refine Sm.t_or ?_
  | with_reducible refine Sm.t_not ?_
  | with_reducible refine Sm.t_yes ?_
  | with_reducible refine Sm.r_ret ?_
  | with_reducible refine Sm.r_err ?_
  | with_reducible refine Sm.l_ret ?_
  | with_reducible refine Sm.l_err ?_
  | with_reducible refine Sm.l_brk ?_
  | with_reducible refine Sm.l_cont ?_
  | ((with_reducible refine Sm.o_name (sl1 := ?sl) ?e ?g ?_); (case e => simp); (case g => simp only [List.set_cons_succ, List.set_cons_zero]; rfl))
  | ((with_reducible refine Sm.o_mul ?e ?_); (case e => first | exact .inl (by decide) | exact .inr (by decide) | exact .inl (Sm.sm_of (by omega) (by omega)) | exact .inr (Sm.sm_of (by omega) (by omega))))
  | ((with_reducible refine Sm.o_mod ?e ?_); (case e => first | decide | omega))
  | ((with_reducible refine Sm.o_fdiv ?e ?g ?_); (case e => first | decide | omega); (case g => first | decide | omega))
  | with_reducible refine Sm.o_truthi ?_
  | with_reducible refine Sm.o_truthl ?_
  | with_reducible refine Sm.o_trutht ?_
  | with_reducible refine Sm.o_truthb ?_
  | with_reducible refine Sm.o_truthn ?_
  | ((with_reducible refine Sm.o_truths ?e ?_); (case e => first | decide | omega))
  | ((with_reducible refine Sm.o_catl ?e ?_); (case e => first | (simp; done) | (simp; omega)))
  | ((with_reducible refine Sm.o_app ?e ?_); (case e => first | omega | (simp; done) | (simp; omega)))
  | ((with_reducible refine Sm.o_rng1 ?e ?g ?_); (case e => omega); (case g => omega))
  | ((with_reducible refine Sm.o_rng2 ?e ?g ?a ?b ?_); (case e => omega); (case g => omega); (case a => omega); (case b => omega))
  | with_reducible refine Sm.o_itl ?_
  | with_reducible refine Sm.o_itt ?_
  | with_reducible refine Sm.o_iz Sm.p4 ?_
  | with_reducible refine Sm.o_iz Sm.p9 ?_
  | with_reducible refine Sm.o_iz Sm.p12 ?_
  | with_reducible refine Sm.o_iz Sm.p13 ?_
  | with_reducible refine Sm.o_iz Sm.p18 ?_
  | with_reducible refine Sm.o_iz Sm.p20 ?_
  | with_reducible refine Sm.o_iz Sm.p30 ?_
  | with_reducible refine Sm.o_iz Sm.p40 ?_
  | with_reducible refine Sm.o_some ?_
  | ((with_reducible refine Sm.o_iz (z := ?z) ?e ?_); (case e => first | assumption | rfl))
  | with_reducible refine Sm.b_true ?_
  | with_reducible refine Sm.b_false ?_
  | with_reducible refine Sm.b_neg ?_
  | ((with_reducible refine Sm.b_ist ?e ?_); (case e => rfl))
  | ((with_reducible refine Sm.b_isf ?e ?_); (case e => rfl))
  | ((with_reducible refine Sm.b_yes ?e ?_); (case e => first | rfl | decide | assumption | omega))
  | ((with_reducible refine Sm.b_no ?e ?_); (case e => first | decide | assumption | omega))
  | with_reducible refine Sm.b_dec (fun _ => ?_) (fun _ => ?_)
  | with_reducible refine Sm.b_var (fun _ => ?_) (fun _ => ?_)
  | ((with_reducible refine Sm.and_fit ?e ?_); (case e => first | (simp; done) | omega | (simp; omega)))
  | ((with_reducible refine Sm.and_len ?e ?_); (case e => first | rfl | (simp; done)))
  | ((with_reducible refine Sm.and_cls ?e ?_); (case e => first | rfl | assumption))
  | ((with_reducible refine Sm.and_atom ?e ?_); (case e => rfl))
  | with_reducible refine Sm.and_non ?_
  | with_reducible refine Sm.ex_str ?_
  | with_reducible refine Sm.ex_int ?_)
local macro_rules | `(tactic| array_get_dec) => `(tactic| repeat' array_mem_dec)
namespace K27
open PySem Sm
variable {S : Sto} {Q : D → Sto → Prop} {X : Exc → Sto → Prop}
abbrev dD (b : Int) : D := .tup [.str "take", .int b]
def rowOb (ks st T : List Int) (mks mts : List D) : Ob := ⟨52, [some (.tup (ks.map .int)), some (iD st), some (iD T), some (.lst mks), some (.lst mts), some (.lst (T.map dD))]⟩
theorem standing_sp {r : Nat} {ks st T : List Int} {mks mts : List D} (hS : S[r]? = some (rowOb ks st T mks mts)) (h : Q (iD st) S) : wF F_Row_standing [.ref r] S Q X := by
  have e1 : rdF [(52, 1)] (.ref r) S = some (iD st) := rd_at hS rfl rfl
  refine o_Row_standing ?_
  unfold m_Row_standing
  array_get_dec
  exact h
theorem taken_sp {r : Nat} {ks st T : List Int} {mks mts : List D} (hS : S[r]? = some (rowOb ks st T mks mts)) (h : Q (iD T) S) : wF F_Row_taken [.ref r] S Q X := by
  have e1 : rdF [(52, 2)] (.ref r) S = some (iD T) := rd_at hS rfl rfl
  refine o_Row_taken ?_
  unfold m_Row_taken
  array_get_dec
  exact h
theorem flat_ints (l : List Int) : (l.map D.int).all flatD = true := by
  rw [List.all_map, List.all_eq_true]
  exact fun x _ => rfl
theorem notin_ints {l : List Int} {b : Int} {P : D → Prop} (h : P (.bl (!decide (b ∈ l)))) : wO (fNotIn (.int b) (iD l)) P := by
  refine ⟨_, ?_, h⟩
  unfold fNotIn isIn
  simp only [if_pos (show flatD (.int b) = true ∧ (l.map D.int).all flatD = true from ⟨rfl, flat_ints l⟩), List.any_map]
  show some (D.bl !(l.any fun x => x == b)) = _
  congr 3
  rw [Bool.eq_iff_iff, List.any_eq_true, decide_eq_true_iff]
  exact ⟨fun ⟨x, hx, e⟩ => by rw [← beq_iff_eq.mp e]; exact hx, fun hb => ⟨b, hb, beq_self_eq_true b⟩⟩
theorem find_ints {b : Int} : ∀ {l : List Int}, b ∈ l → findD (.int b) (l.map D.int) = some (l.idxOf b)
  | [], h => by cases h
  | x :: t, h => by
    unfold findD
    rw [List.map_cons]
    show (if (x == b) = true then _ else _) = _
    rw [List.idxOf_cons]
    by_cases e : x = b
    · subst e
      simp
    · have : b ∈ t := by
        rcases List.mem_cons.mp h with h | h
        · exact absurd h.symm e
        · exact h
      simp only [beq_eq_false_iff_ne.mpr e, Bool.false_eq_true, if_false, find_ints this, Option.map_some, cond_false]
theorem o_idx {l : List Int} {b : Int} {P : D → Prop} (hb : b ∈ l) (h : P (.int (l.idxOf b))) : wO (fIndexL (l.map D.int) (.int b)) P := by
  refine ⟨_, ?_, h⟩
  unfold fIndexL
  rw [if_pos ⟨rfl, flat_ints l⟩, find_ints hb]
  rfl
theorem check_sp {r : Nat} {ks st T : List Int} {mks mts : List D} {b : Int} (hk : ks.length ≤ 24) (hS : S[r]? = some (rowOb ks st T mks mts)) (h : (0 ≤ b ∧ b < ks.length) → b ∈ st → Q .non S) (h1 : ¬ (0 ≤ b ∧ b < ks.length) → X ⟨5, [.int b]⟩ S) (h2 : (0 ≤ b ∧ b < ks.length) → b ∉ st → X ⟨6, [.int b]⟩ S) : wF F_Rowcheck_standing [.ref r, .int b] S Q X := by
  have e0 : rdF [(52, 0)] (.ref r) S = some (.tup (ks.map .int)) := rd_at hS rfl rfl
  have e1 : rdF [(52, 1)] (.ref r) S = some (iD st) := rd_at hS rfl rfl
  refine o_Rowcheck_standing ?_
  unfold m_Rowcheck_standing
  array_get_dec
  · exact h1 (by omega)
  · rename_i q1 q2
    rw [List.length_map] at q2
    exact h1 (by omega)
  · rename_i q1 q2
    rw [List.length_map] at q2
    refine notin_ints ?_
    array_get_dec
    · rename_i q3
      exact h ⟨by omega, by omega⟩ (by simpa using q3)
    · rename_i q3
      exact h2 ⟨by omega, by omega⟩ (by simpa using q3)
theorem inner_sp {r : Nat} {ks st T : List Int} {mks mts : List D} {b : Int} (hk : ks.length ≤ 24) (hS : S[r]? = some (rowOb ks st T mks mts)) (h : (0 < b ∧ b < ks.length - 1) → b ∈ st → Q .non S) (h1 : ¬ (0 ≤ b ∧ b < ks.length) → X ⟨5, [.int b]⟩ S) (h2 : (0 ≤ b ∧ b < ks.length) → b ∉ st → X ⟨6, [.int b]⟩ S)
    (h3 : b ∈ st → (b = 0 ∨ b = ks.length - 1) → X ⟨7, [.int b]⟩ S) : wF F_Rowcheck_inner [.ref r, .int b] S Q X := by
  have e0 : rdF [(52, 0)] (.ref r) S = some (.tup (ks.map .int)) := rd_at hS rfl rfl
  have c0 : clsOf S (.ref r) = some 52 := cls_at hS
  refine o_Rowcheck_inner ?_
  unfold m_Rowcheck_inner
  array_get_dec
  refine check_sp hk hS (fun p1 p2 => ?_) (fun p => ?_) (fun p q => ?_)
  · array_get_dec
    · exact h3 p2 (.inl (by omega))
    · rename_i q1 q2
      rw [List.length_map] at q2
      exact h3 p2 (.inr (by omega))
    · rename_i q1 q2
      rw [List.length_map] at q2
      exact h ⟨by omega, by omega⟩ p2
  · array_get_dec
    exact h1 p
  · array_get_dec
    exact h2 p q
/-- the bead beside, or none -/
def lft (st : List Int) (b : Int) : D := if st.idxOf b = 0 then .non else .int (st.getD (st.idxOf b - 1) 0)
def rgt (st : List Int) (b : Int) : D := if st.idxOf b + 1 < st.length then .int (st.getD (st.idxOf b + 1) 0) else .non
theorem neighbours_sp {r : Nat} {ks st T : List Int} {mks mts : List D} {b : Int} (hk : ks.length ≤ 24) (hS : S[r]? = some (rowOb ks st T mks mts)) (hb : 0 ≤ b ∧ b < ks.length) (hm : b ∈ st) (h : Q (.tup [lft st b, rgt st b]) S) : wF F_Row_neighbours [.ref r, .int b] S Q X := by
  have e0 : rdF [(52, 0)] (.ref r) S = some (.tup (ks.map .int)) := rd_at hS rfl rfl
  have e1 : rdF [(52, 1)] (.ref r) S = some (iD st) := rd_at hS rfl rfl
  have c0 : clsOf S (.ref r) = some 52 := cls_at hS
  have hx := List.idxOf_lt_length_of_mem hm
  refine o_Row_neighbours ?_
  unfold m_Row_neighbours
  array_get_dec
  refine check_sp hk hS (fun p1 p2 => ?_) (fun p => absurd hb p) (fun p q => absurd hm q)
  array_get_dec
  refine o_idx hm ?_
  array_get_dec
  · rename_i q
    have hl : lft st b = .int (st.getD (st.idxOf b - 1) 0) := if_neg (by omega)
    refine o_ixg (by omega) (by omega) ?_
    rw [show ((st.idxOf b : Int) - 1).toNat = st.idxOf b - 1 by omega, ← hl]
    array_get_dec
    · rename_i q2
      rw [List.length_map] at q2
      have hr : rgt st b = .int (st.getD (st.idxOf b + 1) 0) := if_pos (by omega)
      refine o_ixg (by omega) (by omega) ?_
      rw [show ((st.idxOf b : Int) + 1).toNat = st.idxOf b + 1 by omega, ← hr]
      array_get_dec
      exact h
    · rename_i q2
      rw [List.length_map] at q2
      have hr : rgt st b = .non := if_neg (by omega)
      rw [← hr]
      exact h
  · rename_i q q2
    rw [List.length_map] at q2
    have hl : lft st b = .non := if_pos (by omega)
    have hr : rgt st b = .int (st.getD (st.idxOf b + 1) 0) := if_pos (by omega)
    refine o_ixg (by omega) (by omega) ?_
    rw [show ((st.idxOf b : Int) + 1).toNat = st.idxOf b + 1 by omega, ← hr, ← hl]
    array_get_dec
    exact h
  · rename_i q q2
    rw [List.length_map] at q2
    have hl : lft st b = .non := if_pos (by omega)
    have hr : rgt st b = .non := if_neg (by omega)
    rw [hl, hr] at h
    exact h
theorem mark_sp {r n : Nat} {ks st T : List Int} {mks mts : List D} {b : Int} (hn : ks.length = n) (h2 : 2 ≤ n) (hk : n ≤ 24) (ht : Tk n T) (hst : st = stOf n T) (hS : S[r]? = some (rowOb ks st T mks mts)) (h : (0 < b ∧ b < ks.length - 1) → b ∈ st → Q (.str (mkB ks st b)) S) (h1 : ¬ (0 ≤ b ∧ b < ks.length) → X ⟨5, [.int b]⟩ S) (h2' : (0 ≤ b ∧ b < ks.length) → b ∉ st → X ⟨6, [.int b]⟩ S)
    (h3 : b ∈ st → (b = 0 ∨ b = ks.length - 1) → X ⟨7, [.int b]⟩ S) : wF F_Row_mark [.ref r, .int b] S Q X := by
  have e0 : rdF [(52, 0)] (.ref r) S = some (.tup (ks.map .int)) := rd_at hS rfl rfl
  have e1 : rdF [(52, 1)] (.ref r) S = some (iD st) := rd_at hS rfl rfl
  have c0 : clsOf S (.ref r) = some 52 := cls_at hS
  refine o_Row_mark ?_
  unfold m_Row_mark
  array_get_dec
  refine inner_sp (by omega) hS (fun p1 p2 => ?_) (fun p => ?_) (fun p q => ?_) (fun p q => ?_)
  · obtain ⟨l, el, _⟩ := st_ends h2 ht
    have hx := List.idxOf_lt_length_of_mem p2
    have hb : st.getD (st.idxOf b) 0 = b := by
      rw [List.getD_eq_getElem?_getD, List.getElem?_eq_getElem hx]
      simp
    have x0 : st.idxOf b ≠ 0 := fun e => by
      rw [e, hst, el] at hb
      simp at hb
      omega
    have x1 : st.idxOf b + 1 < st.length := by
      refine Nat.lt_of_le_of_ne hx fun e => ?_
      have : st.length = l.length + 2 := by rw [hst, el]; simp
      rw [show st.idxOf b = l.length + 1 by omega, hst, el] at hb
      simp at hb
      omega
    have ho : Ok ks st := fun y hy => by
      rw [hst, st_mem] at hy
      omega
    have y0 := ho _ (getD_mem (l := st) (i := st.idxOf b - 1) (by omega))
    have y2 := ho _ (getD_mem (l := st) (i := st.idxOf b + 1) (by omega))
    array_get_dec
    refine neighbours_sp (by omega) hS ⟨by omega, by omega⟩ p2 ?_
    rw [show lft st b = .int (st.getD (st.idxOf b - 1) 0) from if_neg x0, show rgt st b = .int (st.getD (st.idxOf b + 1) 0) from if_pos x1]
    array_get_dec
    refine o_ixgt (by omega) (by omega) ?_
    array_get_dec
    refine o_ixgt (by omega) (by omega) ?_
    array_get_dec
    refine o_ixgt (by omega) (by omega) ?_
    array_get_dec
    refine mark_of_sp ?_
    array_get_dec
    have := h p1 p2
    unfold mkB mkAt at this
    rw [hb] at this
    exact this
  · array_get_dec
    exact h1 p
  · array_get_dec
    exact h2' p q
  · array_get_dec
    exact h3 p q
end K27
end
section
set_option Elab.async false
set_option linter.all false
set_option maxRecDepth 100000
set_option maxHeartbeats 4000000
local macro_rules | `(tactic| array_mem_dec) => `(tactic| first
  | with_reducible refine Sm.s_sq ?_
  | with_reducible refine Sm.s_put ?_
  | with_reducible refine Sm.s_own ?_
  | with_reducible refine Sm.s_if ?_
  | with_reducible refine Sm.s_ret ?_
  | with_reducible refine Sm.s_skip ?_
  | with_reducible refine Sm.s_do ?_
  | with_reducible refine Sm.s_retN ?_
  | with_reducible refine Sm.s_for ?_
  | with_reducible refine Sm.s_raise ?_
  | with_reducible refine Sm.s_setF ?_
  | with_reducible refine Sm.s_brk ?_
  | with_reducible refine Sm.s_cont ?_
  | ((with_reducible refine Sm.s_ownS (d := ?d) ?e ?l ?_); (case e => rfl); (case l => rfl))
  | ((with_reducible refine Sm.s_setIx (xs := ?xs) ?e ?_); (case e => intro _; rfl))
  | with_reducible refine Sm.w_C ?_
  | ((with_reducible refine Sm.w_var (d := ?d) ?e ?_); (case e => rfl))
  | with_reducible refine Sm.w_op ?_
  | with_reducible refine Sm.w_un ?_
  | with_reducible refine Sm.w_cons ?_
  | with_reducible refine Sm.w_nil ?_
  | with_reducible refine Sm.w_lst ?_
  | with_reducible refine Sm.w_tup ?_
  | with_reducible refine Sm.w_cal ?_
  | with_reducible refine Sm.w_call ?_
  | with_reducible refine Sm.w_callV ?_
  | with_reducible refine Sm.w_meth ?_
  | with_reducible refine Sm.w_fld ?_
  | with_reducible refine Sm.w_prp ?_
  | with_reducible refine Sm.w_mk ?_
  | with_reducible refine Sm.w_perm ?_
  | with_reducible refine Sm.w_m1 ?_
  | with_reducible refine Sm.w_sl ?_
  | with_reducible refine Sm.w_part0 ?_
  | with_reducible refine Sm.w_part ?_
  | with_reducible refine Sm.w_and ?_
  | with_reducible refine Sm.w_or ?_
  | with_reducible refine Sm.w_not ?_
  | with_reducible refine Sm.w_ife ?_
  | with_reducible refine Sm.w_seq ?_
  | with_reducible refine Sm.w_rng ?_
  | with_reducible refine Sm.l_nil ?_
  | with_reducible refine Sm.l_cons ?_
  | with_reducible refine Sm.o_tupT ?_
  | with_reducible refine Sm.o_sets0 ?_
  | with_reducible refine Sm.o_sets ?_
  | with_reducible refine Sm.w_seqA ?_
  | with_reducible refine Sm.o_itAl ?_
  | with_reducible refine Sm.o_itAt ?_
  | with_reducible refine Sm.o_itAs ?_
  | with_reducible refine Sm.w_enum ?_
  | with_reducible refine Sm.o_enum ?_
  | with_reducible refine Sm.w_zip ?_
  | with_reducible refine Sm.o_zipl ?_
  | with_reducible refine Sm.o_zipt ?_
  | with_reducible refine Sm.w_idx ?_
  | with_reducible refine Sm.ex_lst ?_
  | with_reducible refine Sm.w_sel ?_
  | with_reducible refine Sm.w_m0 ?_
  | with_reducible refine Sm.w_lrg ?_
  | with_reducible refine Sm.w_trg ?_
  | with_reducible refine Sm.w_iso ?_
  | with_reducible refine Sm.s_try ?_
  | with_reducible refine Sm.rt_ret ?_
  | with_reducible refine Sm.rt_err ?_
  | with_reducible refine Sm.ru_ret ?_
  | ((with_reducible refine Sm.h_yes ?e ?g ?_); (case e => rfl); (case g => first | rfl | (simp; done)))
  | ((with_reducible refine Sm.h_no ?e ?_); (case e => rfl))
  | with_reducible refine Sm.h_out ?_
  | ((with_reducible refine Sm.w_xf (k := ?k) (d := ?d) ?a ?e ?g ?_); (case a => rfl); (case e => rfl); (case g => rfl))
  | ((with_reducible refine Sm.w_isX (k := ?k) ?a ?e ?_); (case a => rfl); (case e => rfl))
  | with_reducible refine Sm.o_wrA ?_
  | ((with_reducible refine Sm.o_rdA (k := ?k) (d := ?d) ?e ?g ?_); (case e => rfl); (case g => rfl))
  | ((with_reducible refine Sm.o_strI ?e ?g ?_); (case e => omega); (case g => omega))
  | ((with_reducible refine Sm.o_lenS ?e ?_); (case e => omega))
  | ((with_reducible refine Sm.o_slS ?e ?_); (case e => omega))
  | with_reducible refine Sm.o_nis ?_
  | with_reducible refine Sm.o_ins ?_
  | with_reducible refine Sm.t_tst ?_
  | with_reducible refine Sm.t_tru ?_
  | with_reducible refine Sm.t_and ?_
  | with_reducible refine Sm.t_or ?_
  | with_reducible refine Sm.t_not ?_
  | with_reducible refine Sm.t_yes ?_
  | with_reducible refine Sm.r_ret ?_
  | with_reducible refine Sm.r_err ?_
  | with_reducible refine Sm.l_ret ?_
  | with_reducible refine Sm.l_err ?_
  | with_reducible refine Sm.l_brk ?_
  | with_reducible refine Sm.l_cont ?_
  | ((with_reducible refine Sm.o_name (sl1 := ?sl) ?e ?g ?_); (case e => simp); (case g => simp only [List.set_cons_succ, List.set_cons_zero]; rfl))
  | ((with_reducible refine Sm.o_mul ?e ?_); (case e => first | exact .inl (by decide) | exact .inr (by decide) | exact .inl (Sm.sm_of (by omega) (by omega)) | exact .inr (Sm.sm_of (by omega) (by omega))))
  | ((with_reducible refine Sm.o_mod ?e ?_); (case e => first | decide | omega))
  | ((with_reducible refine Sm.o_fdiv ?e ?g ?_); (case e => first | decide | omega); (case g => first | decide | omega))
  | with_reducible refine Sm.o_truthi ?_
  | with_reducible refine Sm.o_truthl ?_
  | with_reducible refine Sm.o_trutht ?_
  | with_reducible refine Sm.o_truthb ?_
  | with_reducible refine Sm.o_truthn ?_
  | ((with_reducible refine Sm.o_truths ?e ?_); (case e => first | decide | omega))
  | ((with_reducible refine Sm.o_catl ?e ?_); (case e => first | (simp; done) | (simp; omega)))
  | ((with_reducible refine Sm.o_app ?e ?_); (case e => first | omega | (simp; done) | (simp; omega)))
  | ((with_reducible refine Sm.o_rng1 ?e ?g ?_); (case e => omega); (case g => omega))
  | ((with_reducible refine Sm.o_rng2 ?e ?g ?a ?b ?_); (case e => omega); (case g => omega); (case a => omega); (case b => omega))
  | with_reducible refine Sm.o_itl ?_
  | with_reducible refine Sm.o_itt ?_
  | with_reducible refine Sm.o_iz Sm.p4 ?_
  | with_reducible refine Sm.o_iz Sm.p9 ?_
  | with_reducible refine Sm.o_iz Sm.p12 ?_
  | with_reducible refine Sm.o_iz Sm.p13 ?_
  | with_reducible refine Sm.o_iz Sm.p18 ?_
  | with_reducible refine Sm.o_iz Sm.p20 ?_
  | with_reducible refine Sm.o_iz Sm.p30 ?_
  | with_reducible refine Sm.o_iz Sm.p40 ?_
  | with_reducible refine Sm.o_some ?_
  | ((with_reducible refine Sm.o_iz (z := ?z) ?e ?_); (case e => first | assumption | rfl))
  | with_reducible refine Sm.b_true ?_
  | with_reducible refine Sm.b_false ?_
  | with_reducible refine Sm.b_neg ?_
  | ((with_reducible refine Sm.b_ist ?e ?_); (case e => rfl))
  | ((with_reducible refine Sm.b_isf ?e ?_); (case e => rfl))
  | ((with_reducible refine Sm.b_yes ?e ?_); (case e => first | rfl | decide | assumption | omega))
  | ((with_reducible refine Sm.b_no ?e ?_); (case e => first | decide | assumption | omega))
  | with_reducible refine Sm.b_dec (fun _ => ?_) (fun _ => ?_)
  | with_reducible refine Sm.b_var (fun _ => ?_) (fun _ => ?_)
  | ((with_reducible refine Sm.and_fit ?e ?_); (case e => first | (simp; done) | omega | (simp; omega)))
  | ((with_reducible refine Sm.and_len ?e ?_); (case e => first | rfl | (simp; done)))
  | ((with_reducible refine Sm.and_cls ?e ?_); (case e => first | rfl | assumption))
  | ((with_reducible refine Sm.and_atom ?e ?_); (case e => rfl))
  | with_reducible refine Sm.and_non ?_
  | with_reducible refine Sm.ex_str ?_
  | with_reducible refine Sm.ex_int ?_)
local macro_rules | `(tactic| array_get_dec) => `(tactic| repeat' array_mem_dec)
namespace K27
open PySem Sm
variable {S : Sto} {Q : D → Sto → Prop} {X : Exc → Sto → Prop}
/-- a list in a field, changed -/
theorem s_ownR {a : Mx D} {ms : Mx (List D)} {sl : Sl} {N : Sl → Sto → Prop} {R : Rs → Prop} {f : D → List D → Option (D × D)} {c k r : Nat} {kk : D → Ms} {fs : List (Option D)} {xs : List D} (hS : S[r]? = some ⟨c, fs⟩) (hk : fs[k]? = some (some (.lst xs))) (ha : wE a sl S (fun o S1 => o = .ref r ∧ S1 = S) fun _ _ => False)
    (h : wE ms sl S (fun as S2 => S2 = S ∧ wO (f (.lst xs) as) fun p => wS (kk p.1) sl (S.set r ⟨c, fs.set k (some p.2)⟩) N R) fun x S1 => R (.err x sl S1)) : wS (mOwnF f c k a ms kk) sl S N R := by
  have e : getF c k (.ref r) S = some (r, ⟨c, fs⟩, .lst xs) := by
    unfold getF
    simp only [hS, hk, if_true]
  have ha' : wE a sl S (fun o S1 => o = .ref r ∧ S1 = S) fun x S1 => R (.err x sl S1) := by
    unfold wE at ha ⊢
    cases q : a sl S with
    | ok d S1 => rw [q] at ha; exact ha
    | err x S1 => rw [q] at ha; exact ha.elim
    | stuck => rw [q] at ha; exact ha
  refine s_ownF (w_imp ha' fun o S1 ⟨e1, e2⟩ => ?_)
  subst e1 e2
  refine ⟨r, ⟨c, fs⟩, .lst xs, rfl, e, rfl, w_imp h fun as S2 ⟨e3, q⟩ => ?_⟩
  subst e3
  exact ⟨⟨c, fs⟩, .lst xs, e, q⟩
theorem set_get {i : Nat} {o o' : Ob} (h : S[i]? = some o) : (S.set i o')[i]? = some o' := List.getElem?_set_self (List.getElem?_eq_some_iff.mp h).1
theorem set_ne {i j : Nat} {o o' : Ob} (h : S[j]? = some o') (n : i ≠ j) : (S.set i o)[j]? = some o' := by rw [List.getElem?_set_ne n]; exact h
theorem inn_in {n : Nat} {T : List Int} {b : Int} (h2 : 2 ≤ n) (ht : Tk n T) (h : b ∈ inn (stOf n T)) : b ∈ stOf n T ∧ 0 < b ∧ b < n - 1 := by
  obtain ⟨l, e, e2⟩ := st_ends h2 ht
  rw [e2] at h
  have lt := st_lt (n := n) (T := T)
  rw [e] at lt ⊢
  rw [List.pairwise_cons, List.pairwise_append] at lt
  refine ⟨by simp [h], lt.1 b (by simp [h]), lt.2.2.2 b h _ (by simp)⟩
theorem inn_cut {st : List Int} (hl : 2 ≤ st.length) : cutD (st.map D.int) (some 1) (some (-1)) = (inn st).map D.int := by
  unfold cutD inn
  rw [List.length_map, ← List.map_drop, ← List.map_take]
  have e1 : HT.sIx st.length 0 (some 1) = 1 := by
    show (if (1 : Int) < 0 then ((1 : Int) + (st.length : Int)).toNat else min (1 : Int).toNat st.length) = 1
    rw [if_neg (by decide)]
    show min 1 st.length = 1
    omega
  have e2 : HT.sIx st.length st.length (some (-1)) = st.length - 1 := by
    show (if (-1 : Int) < 0 then ((-1 : Int) + (st.length : Int)).toNat else min (-1 : Int).toNat st.length) = _
    rw [if_pos (by decide)]
    omega
  rw [e1, e2, Nat.sub_sub]
theorem len2 {n : Nat} {T : List Int} (h2 : 2 ≤ n) (ht : Tk n T) : 2 ≤ (stOf n T).length := by
  obtain ⟨l, e, _⟩ := st_ends h2 ht
  rw [e]
  simp
theorem ok_st {ks T : List Int} : Ok ks (stOf ks.length T) := fun y hy => (st_mem.mp hy).1
section
variable {r g : Nat} {ks T : List Int} {mks mts : List D} {z : D} {b : Int}
theorem moves_sp (h2 : 2 ≤ ks.length) (hk : ks.length ≤ 24) (ht : Tk ks.length T) (hG : S[g]? = some ⟨56, [some (.ref r), some z]⟩) (hS : S[r]? = some (rowOb ks (stOf ks.length T) T mks mts)) (h : Q (iD (alw ks (stOf ks.length T))) S) : wF F_Game_moves [.ref g] S Q X := by
  have e0 : rdF [(56, 0)] (.ref g) S = some (.ref r) := rd_at hG rfl rfl
  have c0 : clsOf S (.ref r) = some 52 := cls_at hS
  have hl := st_len (n := ks.length) (T := T)
  refine o_Game_moves ?_
  unfold m_Game_moves
  array_get_dec
  refine w_lcF (f := D.int) (inn (stOf ks.length T)) (fun b => !decide (mkB ks (stOf ks.length T) b = "quiet")) (fun b => .int b) (fun x y e => by injection e) ?_
  array_get_dec
  refine standing_sp hS ?_
  array_get_dec
  refine ⟨inn_cut (len2 h2 ht), ?_, fun i x hx => ?_, ?_⟩
  · unfold inn
    simp
    omega
  · obtain ⟨m1, m2⟩ := inn_in h2 ht (List.mem_of_getElem? hx)
    show wO (tName 1 _ [_, none]) _
    array_get_dec
    unfold CT0_Game_moves
    array_get_dec
    refine mark_sp rfl h2 hk ht rfl hS (fun p q => ?_) (fun p => by omega) (fun p q => absurd m1 q) (fun p q => by omega)
    array_get_dec
    · exact ⟨rfl, by simp_all⟩
    · refine ⟨rfl, ?_⟩
      unfold CE1_Game_moves
      array_get_dec
      exact ⟨rfl, by simp_all, rfl⟩
  · array_get_dec
    exact h
theorem gstanding_sp (hG : S[g]? = some ⟨56, [some (.ref r), some z]⟩) (hS : S[r]? = some (rowOb ks (stOf ks.length T) T mks mts)) (h : Q (iD (stOf ks.length T)) S) : wF F_Game_standing [.ref g] S Q X := by
  have e0 : rdF [(56, 0)] (.ref g) S = some (.ref r) := rd_at hG rfl rfl
  have c0 : clsOf S (.ref r) = some 52 := cls_at hS
  refine o_Game_standing ?_
  unfold m_Game_standing
  array_get_dec
  refine standing_sp hS ?_
  array_get_dec
  exact h
theorem turn_sp (hG : S[g]? = some ⟨56, [some (.ref r), some z]⟩) (hS : S[r]? = some (rowOb ks (stOf ks.length T) T mks mts)) (h : Q (.int ((T.length : Int) % 2)) S) : wF F_Game_turn [.ref g] S Q X := by
  have e0 : rdF [(56, 0)] (.ref g) S = some (.ref r) := rd_at hG rfl rfl
  have c0 : clsOf S (.ref r) = some 52 := cls_at hS
  refine o_Game_turn ?_
  unfold m_Game_turn
  array_get_dec
  refine taken_sp hS ?_
  array_get_dec
  rw [List.length_map]
  exact h
theorem is_over_sp (h2 : 2 ≤ ks.length) (hk : ks.length ≤ 24) (ht : Tk ks.length T) (hG : S[g]? = some ⟨56, [some (.ref r), some z]⟩) (hS : S[r]? = some (rowOb ks (stOf ks.length T) T mks mts)) (h : Q (.bl (decide (((alw ks (stOf ks.length T)).length : Int) = 0))) S) : wF F_Game_is_over [.ref g] S Q X := by
  have e0 : rdF [(56, 0)] (.ref g) S = some (.ref r) := rd_at hG rfl rfl
  have c0 : clsOf S (.ref g) = some 56 := cls_at hG
  refine o_Game_is_over ?_
  unfold m_Game_is_over
  array_get_dec
  refine moves_sp h2 hk ht hG hS ?_
  array_get_dec
  rw [List.length_map]
  exact h
end
end K27
end
section
set_option Elab.async false
set_option linter.all false
set_option maxRecDepth 100000
set_option maxHeartbeats 4000000
local macro_rules | `(tactic| array_mem_dec) => `(tactic| first
  | with_reducible refine Sm.s_sq ?_
  | with_reducible refine Sm.s_put ?_
  | with_reducible refine Sm.s_own ?_
  | with_reducible refine Sm.s_if ?_
  | with_reducible refine Sm.s_ret ?_
  | with_reducible refine Sm.s_skip ?_
  | with_reducible refine Sm.s_do ?_
  | with_reducible refine Sm.s_retN ?_
  | with_reducible refine Sm.s_for ?_
  | with_reducible refine Sm.s_raise ?_
  | with_reducible refine Sm.s_setF ?_
  | with_reducible refine Sm.s_brk ?_
  | with_reducible refine Sm.s_cont ?_
  | ((with_reducible refine Sm.s_ownS (d := ?d) ?e ?l ?_); (case e => rfl); (case l => rfl))
  | ((with_reducible refine Sm.s_setIx (xs := ?xs) ?e ?_); (case e => intro _; rfl))
  | with_reducible refine Sm.w_C ?_
  | ((with_reducible refine Sm.w_var (d := ?d) ?e ?_); (case e => rfl))
  | with_reducible refine Sm.w_op ?_
  | with_reducible refine Sm.w_un ?_
  | with_reducible refine Sm.w_cons ?_
  | with_reducible refine Sm.w_nil ?_
  | with_reducible refine Sm.w_lst ?_
  | with_reducible refine Sm.w_tup ?_
  | with_reducible refine Sm.w_cal ?_
  | with_reducible refine Sm.w_call ?_
  | with_reducible refine Sm.w_callV ?_
  | with_reducible refine Sm.w_meth ?_
  | with_reducible refine Sm.w_fld ?_
  | with_reducible refine Sm.w_prp ?_
  | with_reducible refine Sm.w_mk ?_
  | with_reducible refine Sm.w_perm ?_
  | with_reducible refine Sm.w_m1 ?_
  | with_reducible refine Sm.w_sl ?_
  | with_reducible refine Sm.w_part0 ?_
  | with_reducible refine Sm.w_part ?_
  | with_reducible refine Sm.w_and ?_
  | with_reducible refine Sm.w_or ?_
  | with_reducible refine Sm.w_not ?_
  | with_reducible refine Sm.w_ife ?_
  | with_reducible refine Sm.w_seq ?_
  | with_reducible refine Sm.w_rng ?_
  | with_reducible refine Sm.l_nil ?_
  | with_reducible refine Sm.l_cons ?_
  | with_reducible refine Sm.o_tupT ?_
  | with_reducible refine Sm.o_sets0 ?_
  | with_reducible refine Sm.o_sets ?_
  | with_reducible refine Sm.w_seqA ?_
  | with_reducible refine Sm.o_itAl ?_
  | with_reducible refine Sm.o_itAt ?_
  | with_reducible refine Sm.o_itAs ?_
  | with_reducible refine Sm.w_enum ?_
  | with_reducible refine Sm.o_enum ?_
  | with_reducible refine Sm.w_zip ?_
  | with_reducible refine Sm.o_zipl ?_
  | with_reducible refine Sm.o_zipt ?_
  | with_reducible refine Sm.w_idx ?_
  | with_reducible refine Sm.ex_lst ?_
  | with_reducible refine Sm.w_sel ?_
  | with_reducible refine Sm.w_m0 ?_
  | with_reducible refine Sm.w_lrg ?_
  | with_reducible refine Sm.w_trg ?_
  | with_reducible refine Sm.w_iso ?_
  | with_reducible refine Sm.s_try ?_
  | with_reducible refine Sm.rt_ret ?_
  | with_reducible refine Sm.rt_err ?_
  | with_reducible refine Sm.ru_ret ?_
  | ((with_reducible refine Sm.h_yes ?e ?g ?_); (case e => rfl); (case g => first | rfl | (simp; done)))
  | ((with_reducible refine Sm.h_no ?e ?_); (case e => rfl))
  | with_reducible refine Sm.h_out ?_
  | ((with_reducible refine Sm.w_xf (k := ?k) (d := ?d) ?a ?e ?g ?_); (case a => rfl); (case e => rfl); (case g => rfl))
  | ((with_reducible refine Sm.w_isX (k := ?k) ?a ?e ?_); (case a => rfl); (case e => rfl))
  | with_reducible refine Sm.o_wrA ?_
  | ((with_reducible refine Sm.o_rdA (k := ?k) (d := ?d) ?e ?g ?_); (case e => rfl); (case g => rfl))
  | ((with_reducible refine Sm.o_strI ?e ?g ?_); (case e => omega); (case g => omega))
  | ((with_reducible refine Sm.o_lenS ?e ?_); (case e => omega))
  | ((with_reducible refine Sm.o_slS ?e ?_); (case e => omega))
  | with_reducible refine Sm.o_nis ?_
  | with_reducible refine Sm.o_ins ?_
  | with_reducible refine Sm.t_tst ?_
  | with_reducible refine Sm.t_tru ?_
  | with_reducible refine Sm.t_and ?_
  | with_reducible refine Sm.t_or ?_
  | with_reducible refine Sm.t_not ?_
  | with_reducible refine Sm.t_yes ?_
  | with_reducible refine Sm.r_ret ?_
  | with_reducible refine Sm.r_err ?_
  | with_reducible refine Sm.l_ret ?_
  | with_reducible refine Sm.l_err ?_
  | with_reducible refine Sm.l_brk ?_
  | with_reducible refine Sm.l_cont ?_
  | ((with_reducible refine Sm.o_name (sl1 := ?sl) ?e ?g ?_); (case e => simp); (case g => simp only [List.set_cons_succ, List.set_cons_zero]; rfl))
  | ((with_reducible refine Sm.o_mul ?e ?_); (case e => first | exact .inl (by decide) | exact .inr (by decide) | exact .inl (Sm.sm_of (by omega) (by omega)) | exact .inr (Sm.sm_of (by omega) (by omega))))
  | ((with_reducible refine Sm.o_mod ?e ?_); (case e => first | decide | omega))
  | ((with_reducible refine Sm.o_fdiv ?e ?g ?_); (case e => first | decide | omega); (case g => first | decide | omega))
  | with_reducible refine Sm.o_truthi ?_
  | with_reducible refine Sm.o_truthl ?_
  | with_reducible refine Sm.o_trutht ?_
  | with_reducible refine Sm.o_truthb ?_
  | with_reducible refine Sm.o_truthn ?_
  | ((with_reducible refine Sm.o_truths ?e ?_); (case e => first | decide | omega))
  | ((with_reducible refine Sm.o_catl ?e ?_); (case e => first | (simp; done) | (simp; omega)))
  | ((with_reducible refine Sm.o_app ?e ?_); (case e => first | omega | (simp; done) | (simp; omega)))
  | ((with_reducible refine Sm.o_rng1 ?e ?g ?_); (case e => omega); (case g => omega))
  | ((with_reducible refine Sm.o_rng2 ?e ?g ?a ?b ?_); (case e => omega); (case g => omega); (case a => omega); (case b => omega))
  | with_reducible refine Sm.o_itl ?_
  | with_reducible refine Sm.o_itt ?_
  | with_reducible refine Sm.o_iz Sm.p4 ?_
  | with_reducible refine Sm.o_iz Sm.p9 ?_
  | with_reducible refine Sm.o_iz Sm.p12 ?_
  | with_reducible refine Sm.o_iz Sm.p13 ?_
  | with_reducible refine Sm.o_iz Sm.p18 ?_
  | with_reducible refine Sm.o_iz Sm.p20 ?_
  | with_reducible refine Sm.o_iz Sm.p30 ?_
  | with_reducible refine Sm.o_iz Sm.p40 ?_
  | with_reducible refine Sm.o_some ?_
  | ((with_reducible refine Sm.o_iz (z := ?z) ?e ?_); (case e => first | assumption | rfl))
  | with_reducible refine Sm.b_true ?_
  | with_reducible refine Sm.b_false ?_
  | with_reducible refine Sm.b_neg ?_
  | ((with_reducible refine Sm.b_ist ?e ?_); (case e => rfl))
  | ((with_reducible refine Sm.b_isf ?e ?_); (case e => rfl))
  | ((with_reducible refine Sm.b_yes ?e ?_); (case e => first | rfl | decide | assumption | omega))
  | ((with_reducible refine Sm.b_no ?e ?_); (case e => first | decide | assumption | omega))
  | with_reducible refine Sm.b_dec (fun _ => ?_) (fun _ => ?_)
  | with_reducible refine Sm.b_var (fun _ => ?_) (fun _ => ?_)
  | ((with_reducible refine Sm.and_fit ?e ?_); (case e => first | (simp; done) | omega | (simp; omega)))
  | ((with_reducible refine Sm.and_len ?e ?_); (case e => first | rfl | (simp; done)))
  | ((with_reducible refine Sm.and_cls ?e ?_); (case e => first | rfl | assumption))
  | ((with_reducible refine Sm.and_atom ?e ?_); (case e => rfl))
  | with_reducible refine Sm.and_non ?_
  | with_reducible refine Sm.ex_str ?_
  | with_reducible refine Sm.ex_int ?_)
local macro_rules | `(tactic| array_get_dec) => `(tactic| repeat' array_mem_dec)
namespace K27
open PySem Sm
variable {S : Sto} {Q : D → Sto → Prop} {X : Exc → Sto → Prop}
section
variable {r g : Nat} {ks T : List Int} {mks mts : List D} {z : D} {b : Int}
/-- a row of the store -/
def RowAt (ks T : List Int) (r : Nat) (S : Sto) : Prop := ∃ mks mts, S[r]? = some (rowOb ks (stOf ks.length T) T mks mts) ∧ mks.length = T.length ∧ mts.length = T.length + (ks.length - 1)
theorem setR {S : Sto} {o o' : Ob} : (S.set r o).set r o' = S.set r o' := List.set_set ..
theorem nodup_le {l m : List Int} (hl : l.Nodup) (h : ∀ x ∈ l, x ∈ m) : l.length ≤ m.length := by
  induction l generalizing m with
  | nil => simp
  | cons a t ih =>
    rw [List.nodup_cons] at hl
    have := ih (m := m.erase a) hl.2 fun x hx => (List.mem_erase_of_ne (fun e : x = a => hl.1 (e ▸ hx))).mpr (h x (List.mem_cons_of_mem _ hx))
    have ha := h a (List.mem_cons_self ..)
    rw [List.length_erase_of_mem ha] at this
    have := List.length_pos_of_mem ha
    simp
    omega
theorem tk_len {n : Nat} {T : List Int} (ht : Tk n T) : T.length ≤ n := by
  have := nodup_le (m := rg n) ht.nd fun x hx => rg_mem.mpr (by have := ht.inn x hx; omega)
  rwa [show (rg n).length = n by simp [rg]] at this
def rowX (ks st T : List Int) (mks mts dds : List D) : Ob := ⟨52, [some (.tup (ks.map .int)), some (iD st), some (iD T), some (.lst mks), some (.lst mts), some (.lst dds)]⟩
theorem take_out_sp (h2 : 2 ≤ ks.length) (hk : ks.length ≤ 24) (ht : Tk ks.length T) (hS : S[r]? = some (rowOb ks (stOf ks.length T) T mks mts)) (hm : mks.length < 1000) (hm2 : mts.length < 1000) (hb : b ∈ inn (stOf ks.length T))
    (h : ∀ x y, Q (.str (mkB ks (stOf ks.length T) b)) (S.set r (rowX ks (stOf ks.length (T ++ [b])) (T ++ [b]) (mks ++ [x]) (mts ++ [y]) (T.map dD)))) : wF F_Rowtake_out [.ref r, .int b] S Q X := by
  have c0 : clsOf S (.ref r) = some 52 := cls_at hS
  have hl := tk_len ht
  obtain ⟨m1, m2⟩ := inn_in h2 ht hb
  refine o_Rowtake_out ?_
  unfold m_Rowtake_out
  array_get_dec
  refine mark_sp rfl h2 hk ht rfl hS (fun p q => ?_) (fun p => by omega) (fun p q => absurd m1 q) (fun p q => by omega)
  array_get_dec
  refine s_ownR hS rfl (by array_get_dec; exact ⟨rfl, rfl⟩) ?_
  array_get_dec
  refine neighbours_sp hk hS (by omega) m1 ?_
  array_get_dec
  refine ⟨rfl, ?_⟩
  array_get_dec
  refine s_ownR (set_get hS) rfl (by array_get_dec; exact ⟨rfl, rfl⟩) ?_
  array_get_dec
  refine ⟨rfl, ?_⟩
  array_get_dec
  rw [setR]
  refine s_ownR (set_get hS) rfl (by array_get_dec; exact ⟨rfl, rfl⟩) ?_
  array_get_dec
  refine ⟨rfl, ?_⟩
  refine o_app (by rw [List.length_map]; omega) ?_
  array_get_dec
  rw [setR]
  refine w_lcF (f := D.int) (stOf ks.length T) (fun x => !decide (x = b)) (fun x => .int x) (fun x y e => by injection e) ?_
  array_get_dec
  refine o_iz (rd_at (set_get hS) rfl rfl) ?_
  array_get_dec
  refine ⟨rfl, by have := st_len (n := ks.length) (T := T); omega, fun i x hx => ?_, ?_⟩
  · show wO (tName 3 _ [_, _, _, none]) _
    array_get_dec
    unfold CT0_Row__take_out
    array_get_dec
    · exact ⟨rfl, by simp_all⟩
    · refine ⟨rfl, ?_⟩
      unfold CE1_Row__take_out
      array_get_dec
      exact ⟨rfl, by simp_all, rfl⟩
  · array_get_dec
    refine o_wr (set_get hS) ?_
    rw [setR]
    array_get_dec
    have := h (.str (mkB ks (stOf ks.length T) b)) (.tup [lft (stOf ks.length T) b, rgt (stOf ks.length T) b])
    rw [← st_take] at this
    unfold rowX at this
    rw [show iD (T ++ [b]) = .lst (T.map .int ++ [.int b]) by simp] at this
    exact this
theorem take_sp (h2 : 2 ≤ ks.length) (hk : ks.length ≤ 24) (ht : Tk ks.length T) (hS : S[r]? = some (rowOb ks (stOf ks.length T) T mks mts)) (hm : mks.length < 1000) (hm2 : mts.length < 1000) (hb : b ∈ inn (stOf ks.length T))
    (h : ∀ x y, Q (.str (mkB ks (stOf ks.length T) b)) (S.set r (rowOb ks (stOf ks.length (T ++ [b])) (T ++ [b]) (mks ++ [x]) (mts ++ [y])))) : wF F_Row_take [.ref r, .int b] S Q X := by
  have c0 : clsOf S (.ref r) = some 52 := cls_at hS
  have hl := tk_len ht
  refine o_Row_take ?_
  unfold m_Row_take
  array_get_dec
  refine take_out_sp h2 hk ht hS hm hm2 hb fun x y => ?_
  array_get_dec
  refine s_ownR (set_get hS) rfl (by array_get_dec; exact ⟨rfl, rfl⟩) ?_
  array_get_dec
  refine ⟨rfl, ?_⟩
  refine o_app (by rw [List.length_map]; omega) ?_
  array_get_dec
  rw [setR]
  have := h x y
  unfold rowOb at this
  rw [show (T ++ [b]).map dD = T.map dD ++ [dD b] by simp] at this
  exact this
/-- Game.move of an allowed bead -/
theorem move_sp (h2 : 2 ≤ ks.length) (hk : ks.length ≤ 24) (ht : Tk ks.length T) (hG : S[g]? = some ⟨56, [some (.ref r), some z]⟩) (hS : S[r]? = some (rowOb ks (stOf ks.length T) T mks mts)) (hm : mks.length < 1000) (hm2 : mts.length < 1000) (hb : b ∈ alw ks (stOf ks.length T))
    (h : ∀ x y, Q (.str (mkB ks (stOf ks.length T) b)) (S.set r (rowOb ks (stOf ks.length (T ++ [b])) (T ++ [b]) (mks ++ [x]) (mts ++ [y])))) : wF F_Game_move [.ref g, .int b] S Q X := by
  have e0 : rdF [(56, 0)] (.ref g) S = some (.ref r) := rd_at hG rfl rfl
  have c0 : clsOf S (.ref r) = some 52 := cls_at hS
  unfold alw at hb
  rw [List.mem_filter] at hb
  obtain ⟨m1, m2⟩ := inn_in h2 ht hb.1
  refine o_Game_move ?_
  unfold m_Game_move
  array_get_dec
  refine mark_sp rfl h2 hk ht rfl hS (fun p q => ?_) (fun p => by omega) (fun p q => absurd m1 q) (fun p q => by omega)
  array_get_dec
  · simp_all
  · refine take_sp h2 hk ht hS hm hm2 hb.1 fun x y => ?_
    array_get_dec
    exact h x y
/-- .. of another one -/
theorem move_no (h2 : 2 ≤ ks.length) (hk : ks.length ≤ 24) (ht : Tk ks.length T) (hG : S[g]? = some ⟨56, [some (.ref r), some z]⟩) (hS : S[r]? = some (rowOb ks (stOf ks.length T) T mks mts)) (hb : b ∉ alw ks (stOf ks.length T))
    (h : (0 < b ∧ b < ks.length - 1) → b ∈ stOf ks.length T → X ⟨38, [.int b]⟩ S) (h1 : ¬ (0 ≤ b ∧ b < ks.length) → X ⟨5, [.int b]⟩ S) (h2' : (0 ≤ b ∧ b < ks.length) → b ∉ stOf ks.length T → X ⟨6, [.int b]⟩ S)
    (h3 : b ∈ stOf ks.length T → (b = 0 ∨ b = ks.length - 1) → X ⟨7, [.int b]⟩ S) : wF F_Game_move [.ref g, .int b] S Q X := by
  have e0 : rdF [(56, 0)] (.ref g) S = some (.ref r) := rd_at hG rfl rfl
  have c0 : clsOf S (.ref r) = some 52 := cls_at hS
  refine o_Game_move ?_
  unfold m_Game_move
  array_get_dec
  refine mark_sp rfl h2 hk ht rfl hS (fun p q => ?_) (fun p => ?_) (fun p q => ?_) (fun p q => ?_)
  · array_get_dec
    · exact h p q
    · rename_i e
      refine absurd ?_ hb
      unfold alw
      rw [List.mem_filter]
      refine ⟨?_, by simp [e]⟩
      obtain ⟨l, el, el2⟩ := st_ends h2 ht
      rw [el2]
      rw [el] at q
      simp at q
      rcases q with q | q | q
      · omega
      · exact q
      · omega
  · array_get_dec
    exact h1 p
  · array_get_dec
    exact h2' p q
  · array_get_dec
    exact h3 p q
end
end K27
end
section
set_option Elab.async false
set_option linter.all false
set_option maxRecDepth 100000
set_option maxHeartbeats 4000000
local macro_rules | `(tactic| array_mem_dec) => `(tactic| first
  | with_reducible refine Sm.s_sq ?_
  | with_reducible refine Sm.s_put ?_
  | with_reducible refine Sm.s_own ?_
  | with_reducible refine Sm.s_if ?_
  | with_reducible refine Sm.s_ret ?_
  | with_reducible refine Sm.s_skip ?_
  | with_reducible refine Sm.s_do ?_
  | with_reducible refine Sm.s_retN ?_
  | with_reducible refine Sm.s_for ?_
  | with_reducible refine Sm.s_raise ?_
  | with_reducible refine Sm.s_setF ?_
  | with_reducible refine Sm.s_brk ?_
  | with_reducible refine Sm.s_cont ?_
  | ((with_reducible refine Sm.s_ownS (d := ?d) ?e ?l ?_); (case e => rfl); (case l => rfl))
  | ((with_reducible refine Sm.s_setIx (xs := ?xs) ?e ?_); (case e => intro _; rfl))
  | with_reducible refine Sm.w_C ?_
  | ((with_reducible refine Sm.w_var (d := ?d) ?e ?_); (case e => rfl))
  | with_reducible refine Sm.w_op ?_
  | with_reducible refine Sm.w_un ?_
  | with_reducible refine Sm.w_cons ?_
  | with_reducible refine Sm.w_nil ?_
  | with_reducible refine Sm.w_lst ?_
  | with_reducible refine Sm.w_tup ?_
  | with_reducible refine Sm.w_cal ?_
  | with_reducible refine Sm.w_call ?_
  | with_reducible refine Sm.w_callV ?_
  | with_reducible refine Sm.w_meth ?_
  | with_reducible refine Sm.w_fld ?_
  | with_reducible refine Sm.w_prp ?_
  | with_reducible refine Sm.w_mk ?_
  | with_reducible refine Sm.w_perm ?_
  | with_reducible refine Sm.w_m1 ?_
  | with_reducible refine Sm.w_sl ?_
  | with_reducible refine Sm.w_part0 ?_
  | with_reducible refine Sm.w_part ?_
  | with_reducible refine Sm.w_and ?_
  | with_reducible refine Sm.w_or ?_
  | with_reducible refine Sm.w_not ?_
  | with_reducible refine Sm.w_ife ?_
  | with_reducible refine Sm.w_seq ?_
  | with_reducible refine Sm.w_rng ?_
  | with_reducible refine Sm.l_nil ?_
  | with_reducible refine Sm.l_cons ?_
  | with_reducible refine Sm.o_tupT ?_
  | with_reducible refine Sm.o_sets0 ?_
  | with_reducible refine Sm.o_sets ?_
  | with_reducible refine Sm.w_seqA ?_
  | with_reducible refine Sm.o_itAl ?_
  | with_reducible refine Sm.o_itAt ?_
  | with_reducible refine Sm.o_itAs ?_
  | with_reducible refine Sm.w_enum ?_
  | with_reducible refine Sm.o_enum ?_
  | with_reducible refine Sm.w_zip ?_
  | with_reducible refine Sm.o_zipl ?_
  | with_reducible refine Sm.o_zipt ?_
  | with_reducible refine Sm.w_idx ?_
  | with_reducible refine Sm.ex_lst ?_
  | with_reducible refine Sm.w_sel ?_
  | with_reducible refine Sm.w_m0 ?_
  | with_reducible refine Sm.w_lrg ?_
  | with_reducible refine Sm.w_trg ?_
  | with_reducible refine Sm.w_iso ?_
  | with_reducible refine Sm.s_try ?_
  | with_reducible refine Sm.rt_ret ?_
  | with_reducible refine Sm.rt_err ?_
  | with_reducible refine Sm.ru_ret ?_
  | ((with_reducible refine Sm.h_yes ?e ?g ?_); (case e => rfl); (case g => first | rfl | (simp; done)))
  | ((with_reducible refine Sm.h_no ?e ?_); (case e => rfl))
  | with_reducible refine Sm.h_out ?_
  | ((with_reducible refine Sm.w_xf (k := ?k) (d := ?d) ?a ?e ?g ?_); (case a => rfl); (case e => rfl); (case g => rfl))
  | ((with_reducible refine Sm.w_isX (k := ?k) ?a ?e ?_); (case a => rfl); (case e => rfl))
  | with_reducible refine Sm.o_wrA ?_
  | ((with_reducible refine Sm.o_rdA (k := ?k) (d := ?d) ?e ?g ?_); (case e => rfl); (case g => rfl))
  | ((with_reducible refine Sm.o_strI ?e ?g ?_); (case e => omega); (case g => omega))
  | ((with_reducible refine Sm.o_lenS ?e ?_); (case e => omega))
  | ((with_reducible refine Sm.o_slS ?e ?_); (case e => omega))
  | with_reducible refine Sm.o_nis ?_
  | with_reducible refine Sm.o_ins ?_
  | with_reducible refine Sm.t_tst ?_
  | with_reducible refine Sm.t_tru ?_
  | with_reducible refine Sm.t_and ?_
  | with_reducible refine Sm.t_or ?_
  | with_reducible refine Sm.t_not ?_
  | with_reducible refine Sm.t_yes ?_
  | with_reducible refine Sm.r_ret ?_
  | with_reducible refine Sm.r_err ?_
  | with_reducible refine Sm.l_ret ?_
  | with_reducible refine Sm.l_err ?_
  | with_reducible refine Sm.l_brk ?_
  | with_reducible refine Sm.l_cont ?_
  | ((with_reducible refine Sm.o_name (sl1 := ?sl) ?e ?g ?_); (case e => simp); (case g => simp only [List.set_cons_succ, List.set_cons_zero]; rfl))
  | ((with_reducible refine Sm.o_mul ?e ?_); (case e => first | exact .inl (by decide) | exact .inr (by decide) | exact .inl (Sm.sm_of (by omega) (by omega)) | exact .inr (Sm.sm_of (by omega) (by omega))))
  | ((with_reducible refine Sm.o_mod ?e ?_); (case e => first | decide | omega))
  | ((with_reducible refine Sm.o_fdiv ?e ?g ?_); (case e => first | decide | omega); (case g => first | decide | omega))
  | with_reducible refine Sm.o_truthi ?_
  | with_reducible refine Sm.o_truthl ?_
  | with_reducible refine Sm.o_trutht ?_
  | with_reducible refine Sm.o_truthb ?_
  | with_reducible refine Sm.o_truthn ?_
  | ((with_reducible refine Sm.o_truths ?e ?_); (case e => first | decide | omega))
  | ((with_reducible refine Sm.o_catl ?e ?_); (case e => first | (simp; done) | (simp; omega)))
  | ((with_reducible refine Sm.o_app ?e ?_); (case e => first | omega | (simp; done) | (simp; omega)))
  | ((with_reducible refine Sm.o_rng1 ?e ?g ?_); (case e => omega); (case g => omega))
  | ((with_reducible refine Sm.o_rng2 ?e ?g ?a ?b ?_); (case e => omega); (case g => omega); (case a => omega); (case b => omega))
  | with_reducible refine Sm.o_itl ?_
  | with_reducible refine Sm.o_itt ?_
  | with_reducible refine Sm.o_iz Sm.p4 ?_
  | with_reducible refine Sm.o_iz Sm.p9 ?_
  | with_reducible refine Sm.o_iz Sm.p12 ?_
  | with_reducible refine Sm.o_iz Sm.p13 ?_
  | with_reducible refine Sm.o_iz Sm.p18 ?_
  | with_reducible refine Sm.o_iz Sm.p20 ?_
  | with_reducible refine Sm.o_iz Sm.p30 ?_
  | with_reducible refine Sm.o_iz Sm.p40 ?_
  | with_reducible refine Sm.o_some ?_
  | ((with_reducible refine Sm.o_iz (z := ?z) ?e ?_); (case e => first | assumption | rfl))
  | with_reducible refine Sm.b_true ?_
  | with_reducible refine Sm.b_false ?_
  | with_reducible refine Sm.b_neg ?_
  | ((with_reducible refine Sm.b_ist ?e ?_); (case e => rfl))
  | ((with_reducible refine Sm.b_isf ?e ?_); (case e => rfl))
  | ((with_reducible refine Sm.b_yes ?e ?_); (case e => first | rfl | decide | assumption | omega))
  | ((with_reducible refine Sm.b_no ?e ?_); (case e => first | decide | assumption | omega))
  | with_reducible refine Sm.b_dec (fun _ => ?_) (fun _ => ?_)
  | with_reducible refine Sm.b_var (fun _ => ?_) (fun _ => ?_)
  | ((with_reducible refine Sm.and_fit ?e ?_); (case e => first | (simp; done) | omega | (simp; omega)))
  | ((with_reducible refine Sm.and_len ?e ?_); (case e => first | rfl | (simp; done)))
  | ((with_reducible refine Sm.and_cls ?e ?_); (case e => first | rfl | assumption))
  | ((with_reducible refine Sm.and_atom ?e ?_); (case e => rfl))
  | with_reducible refine Sm.and_non ?_
  | with_reducible refine Sm.ex_str ?_
  | with_reducible refine Sm.ex_int ?_)
local macro_rules | `(tactic| array_get_dec) => `(tactic| repeat' array_mem_dec)
namespace K27
open PySem Sm
variable {S : Sto} {Q : D → Sto → Prop} {X : Exc → Sto → Prop}
theorem s_tg {t : Tg} {d : D} {sl : Sl} {N : Sl → Sto → Prop} {R : Rs → Prop} (h : wO (t d sl) fun sl' => N sl' S) : wS (fun sl S => match t d sl with | some sl' => .next sl' S | none => .stuck) sl S N R := by
  obtain ⟨z, e, q⟩ := h
  unfold wS
  simp only [e]
  exact q
theorem last_ex {l : List D} (h : 0 < l.length) : ∃ y, l.getLast? = some y := by
  cases e : l.getLast? with
  | none => rw [List.getLast?_eq_none_iff] at e; subst e; cases h
  | some y => exact ⟨y, rfl⟩
theorem o_sorted {l : List Int} {P : D → Prop} (h : P (iD (l.mergeSort (· ≤ ·)))) : wO (kSorted [iD l]) P := by
  refine ⟨_, ?_, h⟩
  show (toInts (l.map .int)).map _ = _
  rw [toInts_map]
  rfl
section
variable {r g : Nat} {ks T : List Int} {mks mts dds : List D} {z : D} {b : Int}
theorem put_back_sp (ht : Tk ks.length (T ++ [b])) (hk : ks.length ≤ 24) (hS : S[r]? = some (rowX ks (stOf ks.length (T ++ [b])) (T ++ [b]) mks mts dds)) (hm : 0 < mks.length) (hm2 : 0 < mts.length)
    (h : Q .non (S.set r (rowX ks (stOf ks.length T) T mks.dropLast mts.dropLast dds))) : wF F_Rowput_back [.ref r] S Q X := by
  have hl := st_len (n := ks.length) (T := T ++ [b])
  obtain ⟨y1, l1⟩ := last_ex hm
  obtain ⟨y2, l2⟩ := last_ex hm2
  refine o_Rowput_back ?_
  unfold m_Rowput_back
  array_get_dec
  refine s_ownR hS rfl (by array_get_dec; exact ⟨rfl, rfl⟩) ?_
  array_get_dec
  refine ⟨rfl, ?_⟩
  refine o_pop (y := .int b) (by simp) ?_
  refine s_tg ?_
  array_get_dec
  refine s_ownR (set_get hS) rfl (by array_get_dec; exact ⟨rfl, rfl⟩) ?_
  array_get_dec
  refine ⟨rfl, ?_⟩
  refine o_pop l1 ?_
  array_get_dec
  rw [setR]
  refine s_ownR (set_get hS) rfl (by array_get_dec; exact ⟨rfl, rfl⟩) ?_
  array_get_dec
  refine ⟨rfl, ?_⟩
  refine o_pop l2 ?_
  array_get_dec
  rw [setR]
  refine o_iz (rd_at (set_get hS) rfl rfl) ?_
  array_get_dec
  rw [show (stOf ks.length (T ++ [b])).map D.int ++ [D.int b] = (stOf ks.length (T ++ [b]) ++ [b]).map D.int by simp]
  refine o_sorted ?_
  rw [st_back ht]
  array_get_dec
  refine o_wr (set_get hS) ?_
  rw [setR]
  unfold rowX at h
  rw [show iD T = .lst ((T ++ [b]).map D.int).dropLast by rw [← List.map_dropLast]; simp] at h
  exact h
/-- Row.undo of a taking -/
theorem rundo_sp (ht : Tk ks.length (T ++ [b])) (hk : ks.length ≤ 24) (hS : S[r]? = some (rowOb ks (stOf ks.length (T ++ [b])) (T ++ [b]) mks mts)) (hm : 0 < mks.length) (hm2 : 0 < mts.length)
    (h : Q (dD b) (S.set r (rowOb ks (stOf ks.length T) T mks.dropLast mts.dropLast))) : wF F_Row_undo [.ref r] S Q X := by
  have c0 : clsOf S (.ref r) = some 52 := cls_at hS
  have e5 : rdF [(52, 5)] (.ref r) S = some (.lst ((T ++ [b]).map dD)) := rd_at hS rfl rfl
  refine o_Row_undo ?_
  unfold m_Row_undo
  array_get_dec
  · rename_i q
    rw [List.length_map, List.length_append] at q
    simp at q
    omega
  refine s_ownR hS rfl (by array_get_dec; exact ⟨rfl, rfl⟩) ?_
  array_get_dec
  refine ⟨rfl, ?_⟩
  refine o_pop (y := dD b) (by simp) ?_
  refine s_tg ?_
  array_get_dec
  refine ⟨cls_at (set_get hS), ?_⟩
  array_get_dec
  refine put_back_sp (dds := ((T ++ [b]).map dD).dropLast) ht hk (set_get hS) hm hm2 ?_
  array_get_dec
  rw [setR]
  unfold rowOb at h
  rw [show T.map dD = ((T ++ [b]).map dD).dropLast by rw [← List.map_dropLast]; simp] at h
  exact h
theorem rundo_no (hS : S[r]? = some (rowOb ks (stOf ks.length []) [] mks mts)) (h : X ⟨10, []⟩ S) : wF F_Row_undo [.ref r] S Q X := by
  have c0 : clsOf S (.ref r) = some 52 := cls_at hS
  have e5 : rdF [(52, 5)] (.ref r) S = some (.lst []) := rd_at hS rfl rfl
  refine o_Row_undo ?_
  unfold m_Row_undo
  array_get_dec
  exact h
theorem gundo_sp (hG : S[g]? = some ⟨56, [some (.ref r), some z]⟩) (ht : Tk ks.length (T ++ [b])) (hk : ks.length ≤ 24) (hS : S[r]? = some (rowOb ks (stOf ks.length (T ++ [b])) (T ++ [b]) mks mts)) (hm : 0 < mks.length) (hm2 : 0 < mts.length)
    (h : Q (.int b) (S.set r (rowOb ks (stOf ks.length T) T mks.dropLast mts.dropLast))) : wF F_Game_undo [.ref g] S Q X := by
  have e0 : rdF [(56, 0)] (.ref g) S = some (.ref r) := rd_at hG rfl rfl
  have c0 : clsOf S (.ref r) = some 52 := cls_at hS
  refine o_Game_undo ?_
  unfold m_Game_undo
  array_get_dec
  refine rundo_sp ht hk hS hm hm2 ?_
  array_get_dec
  exact h
theorem gundo_no (hG : S[g]? = some ⟨56, [some (.ref r), some z]⟩) (hS : S[r]? = some (rowOb ks (stOf ks.length []) [] mks mts)) (h : X ⟨10, []⟩ S) : wF F_Game_undo [.ref g] S Q X := by
  have e0 : rdF [(56, 0)] (.ref g) S = some (.ref r) := rd_at hG rfl rfl
  have c0 : clsOf S (.ref r) = some 52 := cls_at hS
  refine o_Game_undo ?_
  unfold m_Game_undo
  array_get_dec
  refine rundo_no hS ?_
  array_get_dec
  exact h
theorem lundo_sp (hG : S[g]? = some ⟨56, [some (.ref r), some z]⟩) (ht : Tk ks.length (T ++ [b])) (hk : ks.length ≤ 24) (hS : S[r]? = some (rowOb ks (stOf ks.length (T ++ [b])) (T ++ [b]) mks mts)) (hm : 0 < mks.length) (hm2 : 0 < mts.length)
    (h : Q (.tup [.str "undone", .int b]) (S.set r (rowOb ks (stOf ks.length T) T mks.dropLast mts.dropLast))) : wF F__law_undo [.ref g] S Q X := by
  have c0 : clsOf S (.ref g) = some 56 := cls_at hG
  refine o__law_undo ?_
  unfold m__law_undo
  array_get_dec
  refine gundo_sp hG ht hk hS hm hm2 ?_
  array_get_dec
  exact h
theorem lundo_no (hG : S[g]? = some ⟨56, [some (.ref r), some z]⟩) (hS : S[r]? = some (rowOb ks (stOf ks.length []) [] mks mts)) (h : Q (.tup [.str "NothingToUndo", .bl true]) S) : wF F__law_undo [.ref g] S Q X := by
  have c0 : clsOf S (.ref g) = some 56 := cls_at hG
  refine o__law_undo ?_
  unfold m__law_undo
  array_get_dec
  refine gundo_no hG hS ?_
  array_get_dec
  exact h
theorem lmove_sp (h2 : 2 ≤ ks.length) (hk : ks.length ≤ 24) (ht : Tk ks.length T) (hG : S[g]? = some ⟨56, [some (.ref r), some z]⟩) (hS : S[r]? = some (rowOb ks (stOf ks.length T) T mks mts)) (hm : mks.length < 1000) (hm2 : mts.length < 1000) (hb : b ∈ alw ks (stOf ks.length T))
    (h : ∀ x y, Q (.tup [.str "moved", .str (mkB ks (stOf ks.length T) b)]) (S.set r (rowOb ks (stOf ks.length (T ++ [b])) (T ++ [b]) (mks ++ [x]) (mts ++ [y])))) : wF F__law_move [.ref g, .int b] S Q X := by
  have c0 : clsOf S (.ref g) = some 56 := cls_at hG
  refine o__law_move ?_
  unfold m__law_move
  array_get_dec
  refine move_sp h2 hk ht hG hS hm hm2 hb fun x y => ?_
  array_get_dec
  exact h x y
theorem lmove_no (h2 : 2 ≤ ks.length) (hk : ks.length ≤ 24) (ht : Tk ks.length T) (hG : S[g]? = some ⟨56, [some (.ref r), some z]⟩) (hS : S[r]? = some (rowOb ks (stOf ks.length T) T mks mts)) (hb : b ∉ alw ks (stOf ks.length T))
    (h : (0 < b ∧ b < ks.length - 1) → b ∈ stOf ks.length T → Q (.tup [.str "QuietMove", .int b, .bl true]) S) (h1 : ¬ (0 ≤ b ∧ b < ks.length) → Q (.tup [.str "NoSuchBead", .int b, .bl true]) S) (h2' : (0 ≤ b ∧ b < ks.length) → b ∉ stOf ks.length T → Q (.tup [.str "GoneBead", .int b, .bl true]) S)
    (h3 : b ∈ stOf ks.length T → (b = 0 ∨ b = ks.length - 1) → Q (.tup [.str "EndBead", .int b, .bl true]) S) : wF F__law_move [.ref g, .int b] S Q X := by
  have c0 : clsOf S (.ref g) = some 56 := cls_at hG
  refine o__law_move ?_
  unfold m__law_move
  array_get_dec
  refine move_no h2 hk ht hG hS hb (fun p q => ?_) (fun p => ?_) (fun p q => ?_) (fun p q => ?_)
  · array_get_dec
    exact h p q
  · array_get_dec
    exact h1 p
  · array_get_dec
    exact h2' p q
  · array_get_dec
    exact h3 p q
end
end K27
end
section
set_option Elab.async false
set_option linter.all false
set_option maxRecDepth 100000
set_option maxHeartbeats 4000000
local macro_rules | `(tactic| array_mem_dec) => `(tactic| first
  | with_reducible refine Sm.s_sq ?_
  | with_reducible refine Sm.s_put ?_
  | with_reducible refine Sm.s_own ?_
  | with_reducible refine Sm.s_if ?_
  | with_reducible refine Sm.s_ret ?_
  | with_reducible refine Sm.s_skip ?_
  | with_reducible refine Sm.s_do ?_
  | with_reducible refine Sm.s_retN ?_
  | with_reducible refine Sm.s_for ?_
  | with_reducible refine Sm.s_raise ?_
  | with_reducible refine Sm.s_setF ?_
  | with_reducible refine Sm.s_brk ?_
  | with_reducible refine Sm.s_cont ?_
  | ((with_reducible refine Sm.s_ownS (d := ?d) ?e ?l ?_); (case e => rfl); (case l => rfl))
  | ((with_reducible refine Sm.s_setIx (xs := ?xs) ?e ?_); (case e => intro _; rfl))
  | with_reducible refine Sm.w_C ?_
  | ((with_reducible refine Sm.w_var (d := ?d) ?e ?_); (case e => rfl))
  | with_reducible refine Sm.w_op ?_
  | with_reducible refine Sm.w_un ?_
  | with_reducible refine Sm.w_cons ?_
  | with_reducible refine Sm.w_nil ?_
  | with_reducible refine Sm.w_lst ?_
  | with_reducible refine Sm.w_tup ?_
  | with_reducible refine Sm.w_cal ?_
  | with_reducible refine Sm.w_call ?_
  | with_reducible refine Sm.w_callV ?_
  | with_reducible refine Sm.w_meth ?_
  | with_reducible refine Sm.w_fld ?_
  | with_reducible refine Sm.w_prp ?_
  | with_reducible refine Sm.w_mk ?_
  | with_reducible refine Sm.w_perm ?_
  | with_reducible refine Sm.w_m1 ?_
  | with_reducible refine Sm.w_sl ?_
  | with_reducible refine Sm.w_part0 ?_
  | with_reducible refine Sm.w_part ?_
  | with_reducible refine Sm.w_and ?_
  | with_reducible refine Sm.w_or ?_
  | with_reducible refine Sm.w_not ?_
  | with_reducible refine Sm.w_ife ?_
  | with_reducible refine Sm.w_seq ?_
  | with_reducible refine Sm.w_rng ?_
  | with_reducible refine Sm.l_nil ?_
  | with_reducible refine Sm.l_cons ?_
  | with_reducible refine Sm.o_tupT ?_
  | with_reducible refine Sm.o_sets0 ?_
  | with_reducible refine Sm.o_sets ?_
  | with_reducible refine Sm.w_seqA ?_
  | with_reducible refine Sm.o_itAl ?_
  | with_reducible refine Sm.o_itAt ?_
  | with_reducible refine Sm.o_itAs ?_
  | with_reducible refine Sm.w_enum ?_
  | with_reducible refine Sm.o_enum ?_
  | with_reducible refine Sm.w_zip ?_
  | with_reducible refine Sm.o_zipl ?_
  | with_reducible refine Sm.o_zipt ?_
  | with_reducible refine Sm.w_idx ?_
  | with_reducible refine Sm.ex_lst ?_
  | with_reducible refine Sm.w_sel ?_
  | with_reducible refine Sm.w_m0 ?_
  | with_reducible refine Sm.w_lrg ?_
  | with_reducible refine Sm.w_trg ?_
  | with_reducible refine Sm.w_iso ?_
  | with_reducible refine Sm.s_try ?_
  | with_reducible refine Sm.rt_ret ?_
  | with_reducible refine Sm.rt_err ?_
  | with_reducible refine Sm.ru_ret ?_
  | ((with_reducible refine Sm.h_yes ?e ?g ?_); (case e => rfl); (case g => first | rfl | (simp; done)))
  | ((with_reducible refine Sm.h_no ?e ?_); (case e => rfl))
  | with_reducible refine Sm.h_out ?_
  | ((with_reducible refine Sm.w_xf (k := ?k) (d := ?d) ?a ?e ?g ?_); (case a => rfl); (case e => rfl); (case g => rfl))
  | ((with_reducible refine Sm.w_isX (k := ?k) ?a ?e ?_); (case a => rfl); (case e => rfl))
  | with_reducible refine Sm.o_wrA ?_
  | ((with_reducible refine Sm.o_rdA (k := ?k) (d := ?d) ?e ?g ?_); (case e => rfl); (case g => rfl))
  | ((with_reducible refine Sm.o_strI ?e ?g ?_); (case e => omega); (case g => omega))
  | ((with_reducible refine Sm.o_lenS ?e ?_); (case e => omega))
  | ((with_reducible refine Sm.o_slS ?e ?_); (case e => omega))
  | with_reducible refine Sm.o_nis ?_
  | with_reducible refine Sm.o_ins ?_
  | with_reducible refine Sm.t_tst ?_
  | with_reducible refine Sm.t_tru ?_
  | with_reducible refine Sm.t_and ?_
  | with_reducible refine Sm.t_or ?_
  | with_reducible refine Sm.t_not ?_
  | with_reducible refine Sm.t_yes ?_
  | with_reducible refine Sm.r_ret ?_
  | with_reducible refine Sm.r_err ?_
  | with_reducible refine Sm.l_ret ?_
  | with_reducible refine Sm.l_err ?_
  | with_reducible refine Sm.l_brk ?_
  | with_reducible refine Sm.l_cont ?_
  | ((with_reducible refine Sm.o_name (sl1 := ?sl) ?e ?g ?_); (case e => simp); (case g => simp only [List.set_cons_succ, List.set_cons_zero]; rfl))
  | ((with_reducible refine Sm.o_mul ?e ?_); (case e => first | exact .inl (by decide) | exact .inr (by decide) | exact .inl (Sm.sm_of (by omega) (by omega)) | exact .inr (Sm.sm_of (by omega) (by omega))))
  | ((with_reducible refine Sm.o_mod ?e ?_); (case e => first | decide | omega))
  | ((with_reducible refine Sm.o_fdiv ?e ?g ?_); (case e => first | decide | omega); (case g => first | decide | omega))
  | with_reducible refine Sm.o_truthi ?_
  | with_reducible refine Sm.o_truthl ?_
  | with_reducible refine Sm.o_trutht ?_
  | with_reducible refine Sm.o_truthb ?_
  | with_reducible refine Sm.o_truthn ?_
  | ((with_reducible refine Sm.o_truths ?e ?_); (case e => first | decide | omega))
  | ((with_reducible refine Sm.o_catl ?e ?_); (case e => first | (simp; done) | (simp; omega)))
  | ((with_reducible refine Sm.o_app ?e ?_); (case e => first | omega | (simp; done) | (simp; omega)))
  | ((with_reducible refine Sm.o_rng1 ?e ?g ?_); (case e => omega); (case g => omega))
  | ((with_reducible refine Sm.o_rng2 ?e ?g ?a ?b ?_); (case e => omega); (case g => omega); (case a => omega); (case b => omega))
  | with_reducible refine Sm.o_itl ?_
  | with_reducible refine Sm.o_itt ?_
  | with_reducible refine Sm.o_iz Sm.p4 ?_
  | with_reducible refine Sm.o_iz Sm.p9 ?_
  | with_reducible refine Sm.o_iz Sm.p12 ?_
  | with_reducible refine Sm.o_iz Sm.p13 ?_
  | with_reducible refine Sm.o_iz Sm.p18 ?_
  | with_reducible refine Sm.o_iz Sm.p20 ?_
  | with_reducible refine Sm.o_iz Sm.p30 ?_
  | with_reducible refine Sm.o_iz Sm.p40 ?_
  | with_reducible refine Sm.o_some ?_
  | ((with_reducible refine Sm.o_iz (z := ?z) ?e ?_); (case e => first | assumption | rfl))
  | with_reducible refine Sm.b_true ?_
  | with_reducible refine Sm.b_false ?_
  | with_reducible refine Sm.b_neg ?_
  | ((with_reducible refine Sm.b_ist ?e ?_); (case e => rfl))
  | ((with_reducible refine Sm.b_isf ?e ?_); (case e => rfl))
  | ((with_reducible refine Sm.b_yes ?e ?_); (case e => first | rfl | decide | assumption | omega))
  | ((with_reducible refine Sm.b_no ?e ?_); (case e => first | decide | assumption | omega))
  | with_reducible refine Sm.b_dec (fun _ => ?_) (fun _ => ?_)
  | with_reducible refine Sm.b_var (fun _ => ?_) (fun _ => ?_)
  | ((with_reducible refine Sm.and_fit ?e ?_); (case e => first | (simp; done) | omega | (simp; omega)))
  | ((with_reducible refine Sm.and_len ?e ?_); (case e => first | rfl | (simp; done)))
  | ((with_reducible refine Sm.and_cls ?e ?_); (case e => first | rfl | assumption))
  | ((with_reducible refine Sm.and_atom ?e ?_); (case e => rfl))
  | with_reducible refine Sm.and_non ?_
  | with_reducible refine Sm.ex_str ?_
  | with_reducible refine Sm.ex_int ?_)
local macro_rules | `(tactic| array_get_dec) => `(tactic| repeat' array_mem_dec)
namespace K27
open PySem Sm
variable {S : Sto} {Q : D → Sto → Prop} {X : Exc → Sto → Prop}
theorem pd_ints {n : Nat} {l : List Int} (h : l.length < 1000) : pd (n + 2) (iD l) := ⟨by rw [List.length_map]; omega, fun x hx => by
  obtain ⟨y, _, rfl⟩ := List.mem_map.mp hx
  trivial⟩
theorem alw_len {ks T : List Int} : (alw ks (stOf ks.length T)).length ≤ ks.length := by
  refine Nat.le_trans (List.length_filter_le _ _) ?_
  have := st_len (n := ks.length) (T := T)
  unfold inn
  simp
  omega
theorem at_last {l : List Int} {b : Int} : fIx (iD (l ++ [b])) (.int (-1)) = some (.int b) := by
  show L2.atI ((l ++ [b]).map D.int) (-1) = _
  unfold L2.atI L2.ixN
  rw [if_neg (by decide), if_pos (by simp; omega)]
  show ((l ++ [b]).map D.int)[_]? = _
  rw [show ((-1 : Int) + (((l ++ [b]).map D.int).length : Int)).toNat = l.length by simp; omega]
  simp
section
variable {r g : Nat} {ks T : List Int} {mks mts : List D} {z : D} {b : Int}
theorem is_told_sp (h2 : 2 ≤ ks.length) (hk : ks.length ≤ 24) (ht : Tk ks.length T) (hG : S[g]? = some ⟨56, [some (.ref r), some z]⟩) (hS : S[r]? = some (rowOb ks (stOf ks.length T) T mks mts)) (h : Q (.bl true) S) : wF F__law_is_told [.ref g, iD ks, iD (stOf ks.length T), .int T.length] S Q X := by
  have c0 : clsOf S (.ref g) = some 56 := cls_at hG
  have hl := st_len (n := ks.length) (T := T)
  have ha := alw_len (ks := ks) (T := T)
  have hp1 : pd 6 (iD (stOf ks.length T)) := pd_ints (by omega)
  have hp2 : pd 6 (iD (alw ks (stOf ks.length T))) := pd_ints (by omega)
  refine o__law_is_told ?_
  unfold m__law_is_told
  array_get_dec
  refine allowed_sp ok_st st_nd (len2 h2 ht) (by omega) ?_
  array_get_dec
  refine turn_sp hG hS ?_
  array_get_dec
  refine same_sp trivial ?_
  array_get_dec
  refine gstanding_sp hG hS ?_
  array_get_dec
  refine same_sp hp1 ?_
  array_get_dec
  refine gstanding_sp hG hS ?_
  array_get_dec
  refine same_sp hp1 ?_
  array_get_dec
  refine moves_sp h2 hk ht hG hS ?_
  array_get_dec
  refine same_sp hp2 ?_
  array_get_dec
  refine moves_sp h2 hk ht hG hS ?_
  array_get_dec
  refine same_sp hp2 ?_
  array_get_dec
  refine is_over_sp h2 hk ht hG hS ?_
  array_get_dec
  rw [List.length_map]
  refine same_sp trivial ?_
  array_get_dec
  exact h
theorem is_undone_sp (hG : S[g]? = some ⟨56, [some (.ref r), some z]⟩) (ht : Tk ks.length (T ++ [b])) (hk : ks.length ≤ 24) (hS : S[r]? = some (rowOb ks (stOf ks.length (T ++ [b])) (T ++ [b]) mks mts)) (hm : 0 < mks.length) (hm2 : 0 < mts.length)
    (h : Q (.bl true) (S.set r (rowOb ks (stOf ks.length T) T mks.dropLast mts.dropLast))) : wF F__law_is_undone [.ref g, iD (T ++ [b])] S Q X := by
  refine o__law_is_undone ?_
  unfold m__law_is_undone
  array_get_dec
  · rename_i q
    rw [List.length_map, List.length_append] at q
    simp at q
    omega
  refine lundo_sp hG ht hk hS hm hm2 ?_
  array_get_dec
  refine o_iz (z := .int b) at_last ?_
  array_get_dec
  refine same_sp ⟨by simp, fun x hx => by simp at hx; rcases hx with rfl | rfl <;> trivial⟩ ?_
  array_get_dec
  exact h
theorem is_undone_no (hG : S[g]? = some ⟨56, [some (.ref r), some z]⟩) (hS : S[r]? = some (rowOb ks (stOf ks.length []) [] mks mts)) (h : Q (.bl true) S) : wF F__law_is_undone [.ref g, .lst []] S Q X := by
  refine o__law_is_undone ?_
  unfold m__law_is_undone
  array_get_dec
  refine lundo_no hG hS ?_
  array_get_dec
  refine same_sp ⟨by simp, fun x hx => by simp at hx; rcases hx with rfl | rfl <;> trivial⟩ ?_
  array_get_dec
  exact h
end
end K27
end
section
set_option Elab.async false
set_option linter.all false
set_option maxRecDepth 100000
set_option maxHeartbeats 4000000
local macro_rules | `(tactic| array_mem_dec) => `(tactic| first
  | with_reducible refine Sm.s_sq ?_
  | with_reducible refine Sm.s_put ?_
  | with_reducible refine Sm.s_own ?_
  | with_reducible refine Sm.s_if ?_
  | with_reducible refine Sm.s_ret ?_
  | with_reducible refine Sm.s_skip ?_
  | with_reducible refine Sm.s_do ?_
  | with_reducible refine Sm.s_retN ?_
  | with_reducible refine Sm.s_for ?_
  | with_reducible refine Sm.s_raise ?_
  | with_reducible refine Sm.s_setF ?_
  | with_reducible refine Sm.s_brk ?_
  | with_reducible refine Sm.s_cont ?_
  | ((with_reducible refine Sm.s_ownS (d := ?d) ?e ?l ?_); (case e => rfl); (case l => rfl))
  | ((with_reducible refine Sm.s_setIx (xs := ?xs) ?e ?_); (case e => intro _; rfl))
  | with_reducible refine Sm.w_C ?_
  | ((with_reducible refine Sm.w_var (d := ?d) ?e ?_); (case e => rfl))
  | with_reducible refine Sm.w_op ?_
  | with_reducible refine Sm.w_un ?_
  | with_reducible refine Sm.w_cons ?_
  | with_reducible refine Sm.w_nil ?_
  | with_reducible refine Sm.w_lst ?_
  | with_reducible refine Sm.w_tup ?_
  | with_reducible refine Sm.w_cal ?_
  | with_reducible refine Sm.w_call ?_
  | with_reducible refine Sm.w_callV ?_
  | with_reducible refine Sm.w_meth ?_
  | with_reducible refine Sm.w_fld ?_
  | with_reducible refine Sm.w_prp ?_
  | with_reducible refine Sm.w_mk ?_
  | with_reducible refine Sm.w_perm ?_
  | with_reducible refine Sm.w_m1 ?_
  | with_reducible refine Sm.w_sl ?_
  | with_reducible refine Sm.w_part0 ?_
  | with_reducible refine Sm.w_part ?_
  | with_reducible refine Sm.w_and ?_
  | with_reducible refine Sm.w_or ?_
  | with_reducible refine Sm.w_not ?_
  | with_reducible refine Sm.w_ife ?_
  | with_reducible refine Sm.w_seq ?_
  | with_reducible refine Sm.w_rng ?_
  | with_reducible refine Sm.l_nil ?_
  | with_reducible refine Sm.l_cons ?_
  | with_reducible refine Sm.o_tupT ?_
  | with_reducible refine Sm.o_sets0 ?_
  | with_reducible refine Sm.o_sets ?_
  | with_reducible refine Sm.w_seqA ?_
  | with_reducible refine Sm.o_itAl ?_
  | with_reducible refine Sm.o_itAt ?_
  | with_reducible refine Sm.o_itAs ?_
  | with_reducible refine Sm.w_enum ?_
  | with_reducible refine Sm.o_enum ?_
  | with_reducible refine Sm.w_zip ?_
  | with_reducible refine Sm.o_zipl ?_
  | with_reducible refine Sm.o_zipt ?_
  | with_reducible refine Sm.w_idx ?_
  | with_reducible refine Sm.ex_lst ?_
  | with_reducible refine Sm.w_sel ?_
  | with_reducible refine Sm.w_m0 ?_
  | with_reducible refine Sm.w_lrg ?_
  | with_reducible refine Sm.w_trg ?_
  | with_reducible refine Sm.w_iso ?_
  | with_reducible refine Sm.s_try ?_
  | with_reducible refine Sm.rt_ret ?_
  | with_reducible refine Sm.rt_err ?_
  | with_reducible refine Sm.ru_ret ?_
  | ((with_reducible refine Sm.h_yes ?e ?g ?_); (case e => rfl); (case g => first | rfl | (simp; done)))
  | ((with_reducible refine Sm.h_no ?e ?_); (case e => rfl))
  | with_reducible refine Sm.h_out ?_
  | ((with_reducible refine Sm.w_xf (k := ?k) (d := ?d) ?a ?e ?g ?_); (case a => rfl); (case e => rfl); (case g => rfl))
  | ((with_reducible refine Sm.w_isX (k := ?k) ?a ?e ?_); (case a => rfl); (case e => rfl))
  | with_reducible refine Sm.o_wrA ?_
  | ((with_reducible refine Sm.o_rdA (k := ?k) (d := ?d) ?e ?g ?_); (case e => rfl); (case g => rfl))
  | ((with_reducible refine Sm.o_strI ?e ?g ?_); (case e => omega); (case g => omega))
  | ((with_reducible refine Sm.o_lenS ?e ?_); (case e => omega))
  | ((with_reducible refine Sm.o_slS ?e ?_); (case e => omega))
  | with_reducible refine Sm.o_nis ?_
  | with_reducible refine Sm.o_ins ?_
  | with_reducible refine Sm.t_tst ?_
  | with_reducible refine Sm.t_tru ?_
  | with_reducible refine Sm.t_and ?_
  | with_reducible refine Sm.t_or ?_
  | with_reducible refine Sm.t_not ?_
  | with_reducible refine Sm.t_yes ?_
  | with_reducible refine Sm.r_ret ?_
  | with_reducible refine Sm.r_err ?_
  | with_reducible refine Sm.l_ret ?_
  | with_reducible refine Sm.l_err ?_
  | with_reducible refine Sm.l_brk ?_
  | with_reducible refine Sm.l_cont ?_
  | ((with_reducible refine Sm.o_name (sl1 := ?sl) ?e ?g ?_); (case e => simp); (case g => simp only [List.set_cons_succ, List.set_cons_zero]; rfl))
  | ((with_reducible refine Sm.o_mul ?e ?_); (case e => first | exact .inl (by decide) | exact .inr (by decide) | exact .inl (Sm.sm_of (by omega) (by omega)) | exact .inr (Sm.sm_of (by omega) (by omega))))
  | ((with_reducible refine Sm.o_mod ?e ?_); (case e => first | decide | omega))
  | ((with_reducible refine Sm.o_fdiv ?e ?g ?_); (case e => first | decide | omega); (case g => first | decide | omega))
  | with_reducible refine Sm.o_truthi ?_
  | with_reducible refine Sm.o_truthl ?_
  | with_reducible refine Sm.o_trutht ?_
  | with_reducible refine Sm.o_truthb ?_
  | with_reducible refine Sm.o_truthn ?_
  | ((with_reducible refine Sm.o_truths ?e ?_); (case e => first | decide | omega))
  | ((with_reducible refine Sm.o_catl ?e ?_); (case e => first | (simp; done) | (simp; omega)))
  | ((with_reducible refine Sm.o_app ?e ?_); (case e => first | omega | (simp; done) | (simp; omega)))
  | ((with_reducible refine Sm.o_rng1 ?e ?g ?_); (case e => omega); (case g => omega))
  | ((with_reducible refine Sm.o_rng2 ?e ?g ?a ?b ?_); (case e => omega); (case g => omega); (case a => omega); (case b => omega))
  | with_reducible refine Sm.o_itl ?_
  | with_reducible refine Sm.o_itt ?_
  | with_reducible refine Sm.o_iz Sm.p4 ?_
  | with_reducible refine Sm.o_iz Sm.p9 ?_
  | with_reducible refine Sm.o_iz Sm.p12 ?_
  | with_reducible refine Sm.o_iz Sm.p13 ?_
  | with_reducible refine Sm.o_iz Sm.p18 ?_
  | with_reducible refine Sm.o_iz Sm.p20 ?_
  | with_reducible refine Sm.o_iz Sm.p30 ?_
  | with_reducible refine Sm.o_iz Sm.p40 ?_
  | with_reducible refine Sm.o_some ?_
  | ((with_reducible refine Sm.o_iz (z := ?z) ?e ?_); (case e => first | assumption | rfl))
  | with_reducible refine Sm.b_true ?_
  | with_reducible refine Sm.b_false ?_
  | with_reducible refine Sm.b_neg ?_
  | ((with_reducible refine Sm.b_ist ?e ?_); (case e => rfl))
  | ((with_reducible refine Sm.b_isf ?e ?_); (case e => rfl))
  | ((with_reducible refine Sm.b_yes ?e ?_); (case e => first | rfl | decide | assumption | omega))
  | ((with_reducible refine Sm.b_no ?e ?_); (case e => first | decide | assumption | omega))
  | with_reducible refine Sm.b_dec (fun _ => ?_) (fun _ => ?_)
  | with_reducible refine Sm.b_var (fun _ => ?_) (fun _ => ?_)
  | ((with_reducible refine Sm.and_fit ?e ?_); (case e => first | (simp; done) | omega | (simp; omega)))
  | ((with_reducible refine Sm.and_len ?e ?_); (case e => first | rfl | (simp; done)))
  | ((with_reducible refine Sm.and_cls ?e ?_); (case e => first | rfl | assumption))
  | ((with_reducible refine Sm.and_atom ?e ?_); (case e => rfl))
  | with_reducible refine Sm.and_non ?_
  | with_reducible refine Sm.ex_str ?_
  | with_reducible refine Sm.ex_int ?_)
local macro_rules | `(tactic| array_get_dec) => `(tactic| repeat' array_mem_dec)
namespace K27
open PySem Sm
variable {S : Sto} {Q : D → Sto → Prop} {X : Exc → Sto → Prop}
theorem o_modm {l : List Int} {k : Int} {P : D → Prop} (hl : 0 < l.length) (h : ∀ v ∈ l, P (.int v)) : wO (fIx (.lst (l.map fun x => D.int x)) (.int (k % (l.map fun x => D.int x).length))) P := by
  rw [List.length_map]
  exact o_ixM (Int.emod_nonneg _ (by omega)) (Int.emod_lt_of_pos _ (by omega)) fun v hv => h v (List.mem_of_getElem? hv)
theorem o_two {a b : D} {k : Int} {P : D → Prop} (h1 : P a) (h2 : P b) : wO (fIx (.lst [a, b]) (.int (k % 2))) P := by
  have : k % 2 = 0 ∨ k % 2 = 1 := by omega
  rcases this with e | e
  · rw [e]; exact ⟨a, rfl, h1⟩
  · rw [e]; exact ⟨b, rfl, h2⟩
section
variable {r g : Nat} {ks T : List Int} {mks mts : List D} {z : D} {b : Int}
def Bad (ks T : List Int) (b : Int) (w : Str) : Prop := b ∉ alw ks (stOf ks.length T) ∧
  ((w = "QuietMove" ∧ (0 < b ∧ b < ks.length - 1) ∧ b ∈ stOf ks.length T) ∨ (w = "NoSuchBead" ∧ ¬ (0 ≤ b ∧ b < ks.length)) ∨ (w = "GoneBead" ∧ (0 ≤ b ∧ b < ks.length) ∧ b ∉ stOf ks.length T) ∨ (w = "EndBead" ∧ b ∈ stOf ks.length T ∧ (b = 0 ∨ b = ks.length - 1)))
theorem alw_in (h2 : 2 ≤ ks.length) (ht : Tk ks.length T) (h : b ∈ alw ks (stOf ks.length T)) : b ∈ stOf ks.length T ∧ 0 < b ∧ b < ks.length - 1 := by
  unfold alw at h
  rw [List.mem_filter] at h
  exact inn_in h2 ht h.1
theorem lmove_bad {w : Str} (h2 : 2 ≤ ks.length) (hk : ks.length ≤ 24) (ht : Tk ks.length T) (hG : S[g]? = some ⟨56, [some (.ref r), some z]⟩) (hS : S[r]? = some (rowOb ks (stOf ks.length T) T mks mts)) (hb : Bad ks T b w)
    (h : Q (.tup [.str w, .int b, .bl true]) S) : wF F__law_move [.ref g, .int b] S Q X := by
  obtain ⟨h0, hh⟩ := hb
  refine lmove_no h2 hk ht hG hS h0 (fun p q => ?_) (fun p => ?_) (fun p q => ?_) (fun p q => ?_)
  · rcases hh with ⟨rfl, a⟩ | ⟨rfl, a⟩ | ⟨rfl, a, c⟩ | ⟨rfl, a, c⟩
    · exact h
    · omega
    · exact absurd q c
    · omega
  · rcases hh with ⟨rfl, a, c⟩ | ⟨rfl, a⟩ | ⟨rfl, a, c⟩ | ⟨rfl, a, c⟩
    · omega
    · exact h
    · exact absurd a p
    · exact absurd (st_mem.mp a).1 p
  · rcases hh with ⟨rfl, a, c⟩ | ⟨rfl, a⟩ | ⟨rfl, a, c⟩ | ⟨rfl, a, c⟩
    · exact absurd c q
    · exact absurd p a
    · exact h
    · exact absurd a q
  · rcases hh with ⟨rfl, a, c⟩ | ⟨rfl, a⟩ | ⟨rfl, a, c⟩ | ⟨rfl, a, c⟩
    · omega
    · exact absurd (st_mem.mp p).1 a
    · exact absurd p c
    · exact h
theorem bad_sp {k : Int} (h2 : 2 ≤ ks.length) (hk : ks.length ≤ 24) (ht : Tk ks.length T) (h0 : 0 ≤ k) (h : ∀ b w, Bad ks T b w → Q (.tup [.int b, .str w]) S) : wF F__law_bad [iD ks, iD (stOf ks.length T), iD T, .int k] S Q X := by
  have hl := st_len (n := ks.length) (T := T)
  have hT := tk_len ht
  have m0 : (0 : Int) ∈ stOf ks.length T := st_mem.mpr ⟨by omega, fun q => by have := ht.inn _ q; omega⟩
  have m1 : (ks.length : Int) - 1 ∈ stOf ks.length T := st_mem.mpr ⟨by omega, fun q => by have := ht.inn _ q; omega⟩
  have na : ∀ b, ¬ (b ∈ stOf ks.length T ∧ 0 < b ∧ b < ks.length - 1) → b ∉ alw ks (stOf ks.length T) := fun b q p => q (alw_in h2 ht p)
  refine o__law_bad ?_
  unfold m__law_bad
  array_get_dec
  refine allowed_sp ok_st st_nd (len2 h2 ht) (by omega) ?_
  array_get_dec
  refine w_lcF (f := D.int) (inn (stOf ks.length T)) (fun x => !decide (x ∈ alw ks (stOf ks.length T))) (fun x => .int x) (fun x y e => by injection e) ?_
  array_get_dec
  refine ⟨inn_cut (len2 h2 ht), by unfold inn; simp; omega, fun i x hx => ?_, ?_⟩
  · show wO (tName 9 _ [_, _, _, _, _, _, _, _, _, none]) _
    array_get_dec
    unfold CT0_law_bad
    array_get_dec
    refine notin_ints ?_
    array_get_dec
    · refine ⟨rfl, ?_⟩
      simp_all
    · refine ⟨rfl, ?_⟩
      unfold CE1_law_bad
      array_get_dec
      exact ⟨rfl, by simp_all, rfl⟩
  have hs : ∀ b ∈ (inn (stOf ks.length T)).filter (fun x => !decide (x ∈ alw ks (stOf ks.length T))), Bad ks T b "QuietMove" := fun b hb => by
    rw [List.mem_filter] at hb
    obtain ⟨a, c⟩ := inn_in h2 ht hb.1
    exact ⟨by simpa using hb.2, .inl ⟨rfl, c, a⟩⟩
  generalize (inn (stOf ks.length T)).filter (fun x => !decide (x ∈ alw ks (stOf ks.length T))) = l at hs
  have hg : ∀ b ∈ T, Bad ks T b "GoneBead" := fun b hb => ⟨na b fun q => (st_mem.mp q.1).2 hb, .inr (.inr (.inl ⟨rfl, by have := ht.inn b hb; omega, fun q => (st_mem.mp q).2 hb⟩))⟩
  array_get_dec
  all_goals first
    | (refine o_modm (by rename_i q; simpa using q) fun v hv => ?_
       array_get_dec
       first
       | exact h _ _ (hs v hv)
       | exact h _ _ (hg v hv))
    | (refine o_two ?_ ?_
       · array_get_dec
         exact h _ _ ⟨na 0 (fun q => by omega), .inr (.inr (.inr ⟨rfl, m0, .inl rfl⟩))⟩
       · array_get_dec
         rw [List.length_map]
         exact h _ _ ⟨na _ (fun q => by omega), .inr (.inr (.inr ⟨rfl, m1, .inr rfl⟩))⟩)
    | (rw [List.length_map]
       exact h _ _ ⟨na _ (fun q => by have := (st_mem.mp q.1).1; omega), .inr (.inl ⟨rfl, by omega⟩)⟩)
    | exact h _ _ ⟨na _ (fun q => by have := (st_mem.mp q.1).1; omega), .inr (.inl ⟨rfl, by omega⟩)⟩
end
end K27
end
section
set_option Elab.async false
set_option linter.all false
set_option maxRecDepth 100000
set_option maxHeartbeats 4000000
local macro_rules | `(tactic| array_mem_dec) => `(tactic| first
  | with_reducible refine Sm.s_sq ?_
  | with_reducible refine Sm.s_put ?_
  | with_reducible refine Sm.s_own ?_
  | with_reducible refine Sm.s_if ?_
  | with_reducible refine Sm.s_ret ?_
  | with_reducible refine Sm.s_skip ?_
  | with_reducible refine Sm.s_do ?_
  | with_reducible refine Sm.s_retN ?_
  | with_reducible refine Sm.s_for ?_
  | with_reducible refine Sm.s_raise ?_
  | with_reducible refine Sm.s_setF ?_
  | with_reducible refine Sm.s_brk ?_
  | with_reducible refine Sm.s_cont ?_
  | ((with_reducible refine Sm.s_ownS (d := ?d) ?e ?l ?_); (case e => rfl); (case l => rfl))
  | ((with_reducible refine Sm.s_setIx (xs := ?xs) ?e ?_); (case e => intro _; rfl))
  | with_reducible refine Sm.w_C ?_
  | ((with_reducible refine Sm.w_var (d := ?d) ?e ?_); (case e => rfl))
  | with_reducible refine Sm.w_op ?_
  | with_reducible refine Sm.w_un ?_
  | with_reducible refine Sm.w_cons ?_
  | with_reducible refine Sm.w_nil ?_
  | with_reducible refine Sm.w_lst ?_
  | with_reducible refine Sm.w_tup ?_
  | with_reducible refine Sm.w_cal ?_
  | with_reducible refine Sm.w_call ?_
  | with_reducible refine Sm.w_callV ?_
  | with_reducible refine Sm.w_meth ?_
  | with_reducible refine Sm.w_fld ?_
  | with_reducible refine Sm.w_prp ?_
  | with_reducible refine Sm.w_mk ?_
  | with_reducible refine Sm.w_perm ?_
  | with_reducible refine Sm.w_m1 ?_
  | with_reducible refine Sm.w_sl ?_
  | with_reducible refine Sm.w_part0 ?_
  | with_reducible refine Sm.w_part ?_
  | with_reducible refine Sm.w_and ?_
  | with_reducible refine Sm.w_or ?_
  | with_reducible refine Sm.w_not ?_
  | with_reducible refine Sm.w_ife ?_
  | with_reducible refine Sm.w_seq ?_
  | with_reducible refine Sm.w_rng ?_
  | with_reducible refine Sm.l_nil ?_
  | with_reducible refine Sm.l_cons ?_
  | with_reducible refine Sm.o_tupT ?_
  | with_reducible refine Sm.o_sets0 ?_
  | with_reducible refine Sm.o_sets ?_
  | with_reducible refine Sm.w_seqA ?_
  | with_reducible refine Sm.o_itAl ?_
  | with_reducible refine Sm.o_itAt ?_
  | with_reducible refine Sm.o_itAs ?_
  | with_reducible refine Sm.w_enum ?_
  | with_reducible refine Sm.o_enum ?_
  | with_reducible refine Sm.w_zip ?_
  | with_reducible refine Sm.o_zipl ?_
  | with_reducible refine Sm.o_zipt ?_
  | with_reducible refine Sm.w_idx ?_
  | with_reducible refine Sm.ex_lst ?_
  | with_reducible refine Sm.w_sel ?_
  | with_reducible refine Sm.w_m0 ?_
  | with_reducible refine Sm.w_lrg ?_
  | with_reducible refine Sm.w_trg ?_
  | with_reducible refine Sm.w_iso ?_
  | with_reducible refine Sm.s_try ?_
  | with_reducible refine Sm.rt_ret ?_
  | with_reducible refine Sm.rt_err ?_
  | with_reducible refine Sm.ru_ret ?_
  | ((with_reducible refine Sm.h_yes ?e ?g ?_); (case e => rfl); (case g => first | rfl | (simp; done)))
  | ((with_reducible refine Sm.h_no ?e ?_); (case e => rfl))
  | with_reducible refine Sm.h_out ?_
  | ((with_reducible refine Sm.w_xf (k := ?k) (d := ?d) ?a ?e ?g ?_); (case a => rfl); (case e => rfl); (case g => rfl))
  | ((with_reducible refine Sm.w_isX (k := ?k) ?a ?e ?_); (case a => rfl); (case e => rfl))
  | with_reducible refine Sm.o_wrA ?_
  | ((with_reducible refine Sm.o_rdA (k := ?k) (d := ?d) ?e ?g ?_); (case e => rfl); (case g => rfl))
  | ((with_reducible refine Sm.o_strI ?e ?g ?_); (case e => omega); (case g => omega))
  | ((with_reducible refine Sm.o_lenS ?e ?_); (case e => omega))
  | ((with_reducible refine Sm.o_slS ?e ?_); (case e => omega))
  | with_reducible refine Sm.o_nis ?_
  | with_reducible refine Sm.o_ins ?_
  | with_reducible refine Sm.t_tst ?_
  | with_reducible refine Sm.t_tru ?_
  | with_reducible refine Sm.t_and ?_
  | with_reducible refine Sm.t_or ?_
  | with_reducible refine Sm.t_not ?_
  | with_reducible refine Sm.t_yes ?_
  | with_reducible refine Sm.r_ret ?_
  | with_reducible refine Sm.r_err ?_
  | with_reducible refine Sm.l_ret ?_
  | with_reducible refine Sm.l_err ?_
  | with_reducible refine Sm.l_brk ?_
  | with_reducible refine Sm.l_cont ?_
  | ((with_reducible refine Sm.o_name (sl1 := ?sl) ?e ?g ?_); (case e => simp); (case g => simp only [List.set_cons_succ, List.set_cons_zero]; rfl))
  | ((with_reducible refine Sm.o_mul ?e ?_); (case e => first | exact .inl (by decide) | exact .inr (by decide) | exact .inl (Sm.sm_of (by omega) (by omega)) | exact .inr (Sm.sm_of (by omega) (by omega))))
  | ((with_reducible refine Sm.o_mod ?e ?_); (case e => first | decide | omega))
  | ((with_reducible refine Sm.o_fdiv ?e ?g ?_); (case e => first | decide | omega); (case g => first | decide | omega))
  | with_reducible refine Sm.o_truthi ?_
  | with_reducible refine Sm.o_truthl ?_
  | with_reducible refine Sm.o_trutht ?_
  | with_reducible refine Sm.o_truthb ?_
  | with_reducible refine Sm.o_truthn ?_
  | ((with_reducible refine Sm.o_truths ?e ?_); (case e => first | decide | omega))
  | ((with_reducible refine Sm.o_catl ?e ?_); (case e => first | (simp; done) | (simp; omega)))
  | ((with_reducible refine Sm.o_app ?e ?_); (case e => first | omega | (simp; done) | (simp; omega)))
  | ((with_reducible refine Sm.o_rng1 ?e ?g ?_); (case e => omega); (case g => omega))
  | ((with_reducible refine Sm.o_rng2 ?e ?g ?a ?b ?_); (case e => omega); (case g => omega); (case a => omega); (case b => omega))
  | with_reducible refine Sm.o_itl ?_
  | with_reducible refine Sm.o_itt ?_
  | with_reducible refine Sm.o_iz Sm.p4 ?_
  | with_reducible refine Sm.o_iz Sm.p9 ?_
  | with_reducible refine Sm.o_iz Sm.p12 ?_
  | with_reducible refine Sm.o_iz Sm.p13 ?_
  | with_reducible refine Sm.o_iz Sm.p18 ?_
  | with_reducible refine Sm.o_iz Sm.p20 ?_
  | with_reducible refine Sm.o_iz Sm.p30 ?_
  | with_reducible refine Sm.o_iz Sm.p40 ?_
  | with_reducible refine Sm.o_some ?_
  | ((with_reducible refine Sm.o_iz (z := ?z) ?e ?_); (case e => first | assumption | rfl))
  | with_reducible refine Sm.b_true ?_
  | with_reducible refine Sm.b_false ?_
  | with_reducible refine Sm.b_neg ?_
  | ((with_reducible refine Sm.b_ist ?e ?_); (case e => rfl))
  | ((with_reducible refine Sm.b_isf ?e ?_); (case e => rfl))
  | ((with_reducible refine Sm.b_yes ?e ?_); (case e => first | rfl | decide | assumption | omega))
  | ((with_reducible refine Sm.b_no ?e ?_); (case e => first | decide | assumption | omega))
  | with_reducible refine Sm.b_dec (fun _ => ?_) (fun _ => ?_)
  | with_reducible refine Sm.b_var (fun _ => ?_) (fun _ => ?_)
  | ((with_reducible refine Sm.and_fit ?e ?_); (case e => first | (simp; done) | omega | (simp; omega)))
  | ((with_reducible refine Sm.and_len ?e ?_); (case e => first | rfl | (simp; done)))
  | ((with_reducible refine Sm.and_cls ?e ?_); (case e => first | rfl | assumption))
  | ((with_reducible refine Sm.and_atom ?e ?_); (case e => rfl))
  | with_reducible refine Sm.and_non ?_
  | with_reducible refine Sm.ex_str ?_
  | with_reducible refine Sm.ex_int ?_)
local macro_rules | `(tactic| array_get_dec) => `(tactic| repeat' array_mem_dec)
namespace K27
open PySem Sm
variable {S : Sto} {Q : D → Sto → Prop} {X : Exc → Sto → Prop}
/-- the store is changed at r alone -/
def Upd (r : Nat) (S S1 : Sto) : Prop := ∀ j, j ≠ r → S1[j]? = S[j]?
theorem upd_set {r : Nat} {o : Ob} : Upd r S (S.set r o) := fun j h => List.getElem?_set_ne (fun e => h e.symm)
theorem Upd.trans {r : Nat} {S1 S2 : Sto} (h : Upd r S S1) (h' : Upd r S1 S2) : Upd r S S2 := fun j n => (h' j n).trans (h j n)
theorem Upd.refl {r : Nat} : Upd r S S := fun _ _ => rfl
section
variable {r g : Nat} {ks T : List Int} {z : D} {b : Int}
theorem RowAt.told (h2 : 2 ≤ ks.length) (hk : ks.length ≤ 24) (ht : Tk ks.length T) (hG : S[g]? = some ⟨56, [some (.ref r), some z]⟩) (hS : RowAt ks T r S) (h : Q (.bl true) S) : wF F__law_is_told [.ref g, iD ks, iD (stOf ks.length T), .int T.length] S Q X := by
  obtain ⟨mks, mts, e, _, _⟩ := hS
  exact is_told_sp h2 hk ht hG e h
theorem RowAt.undone (h2 : 2 ≤ ks.length) (hk : ks.length ≤ 24) (ht : Tk ks.length (T ++ [b])) (hG : S[g]? = some ⟨56, [some (.ref r), some z]⟩) (hS : RowAt ks (T ++ [b]) r S) (h : ∀ S', RowAt ks T r S' → Upd r S S' → Q (.tup [.str "undone", .int b]) S') : wF F__law_undo [.ref g] S Q X := by
  obtain ⟨mks, mts, e, l1, l2⟩ := hS
  simp at l1 l2
  refine lundo_sp hG ht hk e (by omega) (by omega) (h _ ⟨_, _, set_get e, by simp; omega, by simp; omega⟩ upd_set)
theorem RowAt.isU (h2 : 2 ≤ ks.length) (hk : ks.length ≤ 24) (ht : Tk ks.length (T ++ [b])) (hG : S[g]? = some ⟨56, [some (.ref r), some z]⟩) (hS : RowAt ks (T ++ [b]) r S) (h : ∀ S', RowAt ks T r S' → Upd r S S' → Q (.bl true) S') : wF F__law_is_undone [.ref g, iD (T ++ [b])] S Q X := by
  obtain ⟨mks, mts, e, l1, l2⟩ := hS
  simp at l1 l2
  refine is_undone_sp hG ht hk e (by omega) (by omega) (h _ ⟨_, _, set_get e, by simp; omega, by simp; omega⟩ upd_set)
theorem RowAt.isU0 (hG : S[g]? = some ⟨56, [some (.ref r), some z]⟩) (hS : RowAt ks [] r S) (h : Q (.bl true) S) : wF F__law_is_undone [.ref g, .lst []] S Q X := by
  obtain ⟨mks, mts, e, l1, l2⟩ := hS
  exact is_undone_no hG e h
theorem RowAt.moved (h2 : 2 ≤ ks.length) (hk : ks.length ≤ 24) (ht : Tk ks.length T) (hG : S[g]? = some ⟨56, [some (.ref r), some z]⟩) (hS : RowAt ks T r S) (hb : b ∈ alw ks (stOf ks.length T)) (h : ∀ S', RowAt ks (T ++ [b]) r S' → Upd r S S' → Q (.tup [.str "moved", .str (mkB ks (stOf ks.length T) b)]) S') : wF F__law_move [.ref g, .int b] S Q X := by
  obtain ⟨mks, mts, e, l1, l2⟩ := hS
  have := tk_len ht
  refine lmove_sp h2 hk ht hG e (by omega) (by omega) hb fun x y => h _ ⟨_, _, set_get e, by simp; omega, by simp; omega⟩ upd_set
theorem RowAt.bad {w : Str} (h2 : 2 ≤ ks.length) (hk : ks.length ≤ 24) (ht : Tk ks.length T) (hG : S[g]? = some ⟨56, [some (.ref r), some z]⟩) (hS : RowAt ks T r S) (hb : Bad ks T b w) (h : Q (.tup [.str w, .int b, .bl true]) S) : wF F__law_move [.ref g, .int b] S Q X := by
  obtain ⟨mks, mts, e, l1, l2⟩ := hS
  exact lmove_bad h2 hk ht hG e hb h
theorem RowAt.stands (hG : S[g]? = some ⟨56, [some (.ref r), some z]⟩) (hS : RowAt ks T r S) (h : Q (iD (stOf ks.length T)) S) : wF F_Game_standing [.ref g] S Q X := by
  obtain ⟨mks, mts, e, l1, l2⟩ := hS
  exact gstanding_sp hG e h
theorem Tk.take {n k : Nat} (h : Tk n T) : Tk n (T.take k) := ⟨h.nd.sublist (List.take_sublist _ _), fun x hx => h.inn x (List.mem_of_mem_take hx)⟩
theorem rg_rng {n : Nat} : rng 0 n = (rg n).map D.int := by
  unfold rng rg
  rw [List.map_map]
  exact List.map_congr_left fun j _ => by simp
theorem pd_two {n : Nat} {x y : D} (h1 : pd (n + 1) x) (h2 : pd (n + 1) y) : pd (n + 2) (.tup [x, y]) := ⟨by simp, fun d hd => by simp at hd; rcases hd with rfl | rfl <;> assumption⟩
theorem all_undone_sp (h2 : 2 ≤ ks.length) (hk : ks.length ≤ 24) (ht : Tk ks.length T) (hgr : g ≠ r) (hG : S[g]? = some ⟨56, [some (.ref r), some z]⟩) (hS : RowAt ks T r S) (h : ∀ S', RowAt ks [] r S' → Upd r S S' → Q (.bl true) S') : wF F__law_all_undone [.ref g, iD ks, iD T] S Q X := by
  have hT := tk_len ht
  refine o__law_all_undone ?_
  unfold m__law_all_undone
  array_get_dec
  refine w_lcF (f := D.int) (rg ks.length) (fun x => !decide (x ∈ T)) (fun x => .int x) (fun x y e => by injection e) ?_
  array_get_dec
  rw [List.length_map]
  array_get_dec
  refine ⟨by rw [← rg_rng]; congr 1, by simp [rg]; omega, fun i x hx => ?_, ?_⟩
  · show wO (tName 5 _ [_, _, _, none, none, none]) _
    array_get_dec
    unfold CT0_law_all_undone
    array_get_dec
    refine notin_ints ?_
    array_get_dec
    · exact ⟨rfl, by simp_all⟩
    · refine ⟨rfl, ?_⟩
      unfold CE1_law_all_undone
      array_get_dec
      exact ⟨rfl, by simp_all, rfl⟩
  show wO (tName 3 (iD (stOf ks.length T)) _) _
  array_get_dec
  rw [List.length_map]
  array_get_dec
  refine l_inv (fun k sl S1 => ∃ o4 o5, RowAt ks (T.take (T.length - k)) r S1 ∧ Upd r S S1 ∧ sl = [some (.ref g), some (iD ks), some (iD T), some (iD (stOf ks.length (T.take (T.length - k)))), o4, o5]) ⟨none, none, by simpa using hS, Upd.refl, by simp⟩ (fun sl S1 hh => ?_) (fun i d sl S1 hd hh => ?_)
  · obtain ⟨o4, o5, a1, a2, rfl⟩ := hh
    have hlen : (rng 0 (T.length : Int).toNat).length = T.length := by simp [rng]
    rw [hlen, Nat.sub_self, List.take_zero] at a1
    rw [hlen, Nat.sub_self, List.take_zero]
    have hG1 : S1[g]? = some ⟨56, [some (.ref r), some z]⟩ := by rw [a2 g hgr]; exact hG
    array_get_dec
    refine RowAt.isU0 hG1 a1 ?_
    array_get_dec
    rw [List.length_map]
    refine o_r1 (by omega) (by omega) ?_
    rw [show ((ks.length : Int)).toNat = ks.length by omega, rg_rng, ← rg_nil]
    array_get_dec
    refine RowAt.told (T := []) h2 hk ⟨List.nodup_nil, by simp⟩ hG1 a1 ?_
    array_get_dec
    exact h _ a1 a2
  · obtain ⟨o4, o5, a1, a2, rfl⟩ := hh
    obtain ⟨hi, rfl⟩ := rng_at hd
    have hi : i < T.length := by simpa using hi
    have hG1 : S1[g]? = some ⟨56, [some (.ref r), some z]⟩ := by rw [a2 g hgr]; exact hG
    have et : T.take (T.length - i) = T.take (T.length - (i + 1)) ++ [T.getD (T.length - (i + 1)) 0] := by
      rw [show T.length - i = T.length - (i + 1) + 1 by omega, List.take_add_one, List.getElem?_eq_getElem (by omega), List.getD_eq_getElem?_getD, List.getElem?_eq_getElem (by omega)]
      rfl
    have ht1 := ht.take (k := T.length - i)
    rw [et] at a1 ht1
    rw [et]
    generalize T.take (T.length - (i + 1)) = T1 at *
    have hT1 := st_len (n := ks.length) (T := T1)
    unfold L2_law_all_undone
    array_get_dec
    rw [List.length_map]
    refine o_ixg (by omega) (by omega) ?_
    rw [show ((T.length : Int) - 1 - (i : Int)).toNat = T.length - (i + 1) by omega]
    generalize T.getD (T.length - (i + 1)) 0 = b at *
    array_get_dec
    refine RowAt.undone h2 hk ht1 hG1 a1 fun S2 a3 a4 => ?_
    array_get_dec
    have hG2 : S2[g]? = some ⟨56, [some (.ref r), some z]⟩ := by rw [a4 g hgr]; exact hG1
    have c2 : clsOf S2 (.ref g) = some 56 := cls_at hG2
    have hT2 := st_len (n := ks.length) (T := T1 ++ [b])
    refine same_sp (pd_two trivial trivial) ?_
    array_get_dec
    rw [show (stOf ks.length (T1 ++ [b])).map D.int ++ [D.int b] = (stOf ks.length (T1 ++ [b]) ++ [b]).map D.int by simp]
    refine o_sorted ?_
    rw [st_back ht1]
    array_get_dec
    refine RowAt.stands hG2 a3 ?_
    array_get_dec
    refine same_sp (pd_ints (by omega)) ?_
    array_get_dec
    exact ⟨_, _, a3, a2.trans a4, rfl⟩
theorem idx_rg {n : Nat} {b : Int} (h : 0 ≤ b ∧ b < n) : (rg n).idxOf b = b.toNat := by
  have e : (rg n).getD b.toNat 0 = b := by
    unfold rg
    rw [List.getD_eq_getElem?_getD, List.getElem?_map, List.getElem?_range (by omega)]
    show ((b.toNat : Nat) : Int) = b
    omega
  have nd : (rg n).Nodup := rg_lt.imp fun h => by omega
  have := idx_at nd (i := b.toNat) (by simp [rg]; omega)
  rwa [e] at this
theorem last_is {l : List Int} (h : 0 < l.length) : ∃ l' b, l = l' ++ [b] := by
  have hn : l ≠ [] := by intro e; rw [e] at h; cases h
  exact ⟨l.dropLast, l.getLast hn, (List.dropLast_concat_getLast hn).symm⟩
theorem tk_one {n : Nat} {b : Int} (h : 0 < b ∧ b < n - 1) : Tk n ([] ++ [b]) := ⟨by simp, fun x hx => by
  rw [List.nil_append, List.mem_singleton] at hx
  subst hx
  exact h⟩
theorem apart_sp {r2 g2 : Nat} {z2 : D} (h2 : 2 ≤ ks.length) (hk : ks.length ≤ 24) (h1r : r ≠ r2) (h1g : g ≠ r2) (h2g : g2 ≠ r2) (hG : S[g]? = some ⟨56, [some (.ref r), some z]⟩) (hS : RowAt ks [] r S) (hG2 : S[g2]? = some ⟨56, [some (.ref r2), some z2]⟩) (hS2 : RowAt ks [] r2 S) (h : ∀ S', Q (.bl true) S') : wF F__law_apart [.ref g, .ref g2, iD ks] S Q X := by
  have t0 : Tk ks.length [] := ⟨List.nodup_nil, by simp⟩
  have l0 : (rg ks.length).length = ks.length := by simp [rg]
  refine o__law_apart ?_
  unfold m__law_apart
  array_get_dec
  rw [List.length_map]
  refine o_r1 (by omega) (by omega) ?_
  rw [show ((ks.length : Int)).toNat = ks.length by omega, rg_rng, ← rg_nil]
  array_get_dec
  refine RowAt.told (T := []) h2 hk t0 hG2 hS2 ?_
  array_get_dec
  refine allowed_sp ok_st st_nd (len2 h2 t0) (by rw [rg_nil]; omega) ?_
  array_get_dec
  · exact RowAt.isU0 hG2 hS2 (h _)
  · rename_i q
    obtain ⟨l, b, e⟩ := last_is (l := alw ks (stOf ks.length [])) (by rw [List.length_map] at q; omega)
    have hb : b ∈ alw ks (stOf ks.length []) := by rw [e]; simp
    obtain ⟨m1, m2⟩ := alw_in h2 t0 hb
    rw [e]
    refine o_iz at_last ?_
    array_get_dec
    refine RowAt.moved h2 hk t0 hG2 hS2 hb fun S1 a1 a2 => ?_
    array_get_dec
    refine o_iz at_last ?_
    array_get_dec
    rw [show D.int b = D.int ((b.toNat : Nat) : Int) by congr 1; omega]
    refine mark_at_sp ok_st (by omega) (by rw [rg_nil]; omega) ?_
    array_get_dec
    rw [show mkAt ks (stOf ks.length []) b.toNat = mkB ks (stOf ks.length []) b by unfold mkB; rw [rg_nil, idx_rg (by omega)]]
    refine same_sp (pd_two trivial trivial) ?_
    array_get_dec
    refine w_lcF (f := D.int) (stOf ks.length []) (fun x => !decide (x = b)) (fun x => .int x) (fun x y e => by injection e) ?_
    array_get_dec
    refine ⟨rfl, by rw [rg_nil]; omega, fun i x hx => ?_, ?_⟩
    · show wO (tName 6 _ [_, _, _, _, _, none, none]) _
      array_get_dec
      unfold CT0_law_apart
      array_get_dec
      refine o_iz at_last ?_
      array_get_dec
      · exact ⟨rfl, by simp_all⟩
      · refine ⟨rfl, ?_⟩
        unfold CE1_law_apart
        array_get_dec
        exact ⟨rfl, by simp_all, rfl⟩
    rw [st_take]
    array_get_dec
    have g2' : S1[g2]? = some ⟨56, [some (.ref r2), some z2]⟩ := by rw [a2 g2 h2g]; exact hG2
    have g1' : S1[g]? = some ⟨56, [some (.ref r), some z]⟩ := by rw [a2 g h1g]; exact hG
    refine RowAt.told (T := [] ++ [b]) h2 hk (tk_one m2) g2' a1 ?_
    array_get_dec
    have s1 : RowAt ks [] r S1 := by
      obtain ⟨mks, mts, e, p⟩ := hS
      exact ⟨mks, mts, by rw [a2 r h1r]; exact e, p⟩
    refine RowAt.told (T := []) h2 hk t0 g1' s1 ?_
    array_get_dec
    exact h _
end
end K27
end
section
set_option Elab.async false
set_option linter.all false
set_option maxRecDepth 100000
set_option maxHeartbeats 4000000
local macro_rules | `(tactic| array_mem_dec) => `(tactic| first
  | with_reducible refine Sm.s_sq ?_
  | with_reducible refine Sm.s_put ?_
  | with_reducible refine Sm.s_own ?_
  | with_reducible refine Sm.s_if ?_
  | with_reducible refine Sm.s_ret ?_
  | with_reducible refine Sm.s_skip ?_
  | with_reducible refine Sm.s_do ?_
  | with_reducible refine Sm.s_retN ?_
  | with_reducible refine Sm.s_for ?_
  | with_reducible refine Sm.s_raise ?_
  | with_reducible refine Sm.s_setF ?_
  | with_reducible refine Sm.s_brk ?_
  | with_reducible refine Sm.s_cont ?_
  | ((with_reducible refine Sm.s_ownS (d := ?d) ?e ?l ?_); (case e => rfl); (case l => rfl))
  | ((with_reducible refine Sm.s_setIx (xs := ?xs) ?e ?_); (case e => intro _; rfl))
  | with_reducible refine Sm.w_C ?_
  | ((with_reducible refine Sm.w_var (d := ?d) ?e ?_); (case e => rfl))
  | with_reducible refine Sm.w_op ?_
  | with_reducible refine Sm.w_un ?_
  | with_reducible refine Sm.w_cons ?_
  | with_reducible refine Sm.w_nil ?_
  | with_reducible refine Sm.w_lst ?_
  | with_reducible refine Sm.w_tup ?_
  | with_reducible refine Sm.w_cal ?_
  | with_reducible refine Sm.w_call ?_
  | with_reducible refine Sm.w_callV ?_
  | with_reducible refine Sm.w_meth ?_
  | with_reducible refine Sm.w_fld ?_
  | with_reducible refine Sm.w_prp ?_
  | with_reducible refine Sm.w_mk ?_
  | with_reducible refine Sm.w_perm ?_
  | with_reducible refine Sm.w_m1 ?_
  | with_reducible refine Sm.w_sl ?_
  | with_reducible refine Sm.w_part0 ?_
  | with_reducible refine Sm.w_part ?_
  | with_reducible refine Sm.w_and ?_
  | with_reducible refine Sm.w_or ?_
  | with_reducible refine Sm.w_not ?_
  | with_reducible refine Sm.w_ife ?_
  | with_reducible refine Sm.w_seq ?_
  | with_reducible refine Sm.w_rng ?_
  | with_reducible refine Sm.l_nil ?_
  | with_reducible refine Sm.l_cons ?_
  | with_reducible refine Sm.o_tupT ?_
  | with_reducible refine Sm.o_sets0 ?_
  | with_reducible refine Sm.o_sets ?_
  | with_reducible refine Sm.w_seqA ?_
  | with_reducible refine Sm.o_itAl ?_
  | with_reducible refine Sm.o_itAt ?_
  | with_reducible refine Sm.o_itAs ?_
  | with_reducible refine Sm.w_enum ?_
  | with_reducible refine Sm.o_enum ?_
  | with_reducible refine Sm.w_zip ?_
  | with_reducible refine Sm.o_zipl ?_
  | with_reducible refine Sm.o_zipt ?_
  | with_reducible refine Sm.w_idx ?_
  | with_reducible refine Sm.ex_lst ?_
  | with_reducible refine Sm.w_sel ?_
  | with_reducible refine Sm.w_m0 ?_
  | with_reducible refine Sm.w_lrg ?_
  | with_reducible refine Sm.w_trg ?_
  | with_reducible refine Sm.w_iso ?_
  | with_reducible refine Sm.s_try ?_
  | with_reducible refine Sm.rt_ret ?_
  | with_reducible refine Sm.rt_err ?_
  | with_reducible refine Sm.ru_ret ?_
  | ((with_reducible refine Sm.h_yes ?e ?g ?_); (case e => rfl); (case g => first | rfl | (simp; done)))
  | ((with_reducible refine Sm.h_no ?e ?_); (case e => rfl))
  | with_reducible refine Sm.h_out ?_
  | ((with_reducible refine Sm.w_xf (k := ?k) (d := ?d) ?a ?e ?g ?_); (case a => rfl); (case e => rfl); (case g => rfl))
  | ((with_reducible refine Sm.w_isX (k := ?k) ?a ?e ?_); (case a => rfl); (case e => rfl))
  | with_reducible refine Sm.o_wrA ?_
  | ((with_reducible refine Sm.o_rdA (k := ?k) (d := ?d) ?e ?g ?_); (case e => rfl); (case g => rfl))
  | ((with_reducible refine Sm.o_strI ?e ?g ?_); (case e => omega); (case g => omega))
  | ((with_reducible refine Sm.o_lenS ?e ?_); (case e => omega))
  | ((with_reducible refine Sm.o_slS ?e ?_); (case e => omega))
  | with_reducible refine Sm.o_nis ?_
  | with_reducible refine Sm.o_ins ?_
  | with_reducible refine Sm.t_tst ?_
  | with_reducible refine Sm.t_tru ?_
  | with_reducible refine Sm.t_and ?_
  | with_reducible refine Sm.t_or ?_
  | with_reducible refine Sm.t_not ?_
  | with_reducible refine Sm.t_yes ?_
  | with_reducible refine Sm.r_ret ?_
  | with_reducible refine Sm.r_err ?_
  | with_reducible refine Sm.l_ret ?_
  | with_reducible refine Sm.l_err ?_
  | with_reducible refine Sm.l_brk ?_
  | with_reducible refine Sm.l_cont ?_
  | ((with_reducible refine Sm.o_name (sl1 := ?sl) ?e ?g ?_); (case e => simp); (case g => simp only [List.set_cons_succ, List.set_cons_zero]; rfl))
  | ((with_reducible refine Sm.o_mul ?e ?_); (case e => first | exact .inl (by decide) | exact .inr (by decide) | exact .inl (Sm.sm_of (by omega) (by omega)) | exact .inr (Sm.sm_of (by omega) (by omega))))
  | ((with_reducible refine Sm.o_mod ?e ?_); (case e => first | decide | omega))
  | ((with_reducible refine Sm.o_fdiv ?e ?g ?_); (case e => first | decide | omega); (case g => first | decide | omega))
  | with_reducible refine Sm.o_truthi ?_
  | with_reducible refine Sm.o_truthl ?_
  | with_reducible refine Sm.o_trutht ?_
  | with_reducible refine Sm.o_truthb ?_
  | with_reducible refine Sm.o_truthn ?_
  | ((with_reducible refine Sm.o_truths ?e ?_); (case e => first | decide | omega))
  | ((with_reducible refine Sm.o_catl ?e ?_); (case e => first | (simp; done) | (simp; omega)))
  | ((with_reducible refine Sm.o_app ?e ?_); (case e => first | omega | (simp; done) | (simp; omega)))
  | ((with_reducible refine Sm.o_rng1 ?e ?g ?_); (case e => omega); (case g => omega))
  | ((with_reducible refine Sm.o_rng2 ?e ?g ?a ?b ?_); (case e => omega); (case g => omega); (case a => omega); (case b => omega))
  | with_reducible refine Sm.o_itl ?_
  | with_reducible refine Sm.o_itt ?_
  | with_reducible refine Sm.o_iz Sm.p4 ?_
  | with_reducible refine Sm.o_iz Sm.p9 ?_
  | with_reducible refine Sm.o_iz Sm.p12 ?_
  | with_reducible refine Sm.o_iz Sm.p13 ?_
  | with_reducible refine Sm.o_iz Sm.p18 ?_
  | with_reducible refine Sm.o_iz Sm.p20 ?_
  | with_reducible refine Sm.o_iz Sm.p30 ?_
  | with_reducible refine Sm.o_iz Sm.p40 ?_
  | with_reducible refine Sm.o_some ?_
  | ((with_reducible refine Sm.o_iz (z := ?z) ?e ?_); (case e => first | assumption | rfl))
  | with_reducible refine Sm.b_true ?_
  | with_reducible refine Sm.b_false ?_
  | with_reducible refine Sm.b_neg ?_
  | ((with_reducible refine Sm.b_ist ?e ?_); (case e => rfl))
  | ((with_reducible refine Sm.b_isf ?e ?_); (case e => rfl))
  | ((with_reducible refine Sm.b_yes ?e ?_); (case e => first | rfl | decide | assumption | omega))
  | ((with_reducible refine Sm.b_no ?e ?_); (case e => first | decide | assumption | omega))
  | with_reducible refine Sm.b_dec (fun _ => ?_) (fun _ => ?_)
  | with_reducible refine Sm.b_var (fun _ => ?_) (fun _ => ?_)
  | ((with_reducible refine Sm.and_fit ?e ?_); (case e => first | (simp; done) | omega | (simp; omega)))
  | ((with_reducible refine Sm.and_len ?e ?_); (case e => first | rfl | (simp; done)))
  | ((with_reducible refine Sm.and_cls ?e ?_); (case e => first | rfl | assumption))
  | ((with_reducible refine Sm.and_atom ?e ?_); (case e => rfl))
  | with_reducible refine Sm.and_non ?_
  | with_reducible refine Sm.ex_str ?_
  | with_reducible refine Sm.ex_int ?_)
local macro_rules | `(tactic| array_get_dec) => `(tactic| repeat' array_mem_dec)
namespace K27
open PySem Sm
variable {S : Sto} {Q : D → Sto → Prop} {X : Exc → Sto → Prop}
def KsOk (ks : List Int) : Prop := 2 ≤ ks.length ∧ ks.length ≤ 9 ∧ ∀ x ∈ ks, 0 ≤ x ∧ x < 1000
theorem o_ixc {l : List Int} {k : Int} {P : D → Prop} (h0 : 0 ≤ k) (h1 : k < l.length) (h : ∀ v ∈ l, P (.int v)) : wO (fIx (iD l) (.int k)) P := o_ixM h0 h1 fun v hv => h v (List.mem_of_getElem? hv)
theorem kinds_sp {ns : List Int} (h : ∀ ks, KsOk ks → Q (iD ks) S) : wF F__law_kinds [iD ns, .int 1, .int 9] S Q X := by
  refine o__law_kinds ?_
  unfold m__law_kinds
  array_get_dec
  refine cell_sp (by decide) fun v => ?_
  array_get_dec
  refine draws_sp (n := 4) (by decide) (by decide) (by decide) fun l hl hb => ?_
  array_get_dec
  refine o_ixc (by omega) (by omega) fun a ha => ?_
  have ha := hb a ha
  array_get_dec
  refine o_ixc (by omega) (by omega) fun b hb1 => ?_
  array_get_dec
  refine o_ixc (l := [1, 2, 2, 3, 3, 4, 6, 24]) (by omega) (by show _ < (8 : Int); omega) fun vy hv => ?_
  have hvy : 1 ≤ vy ∧ vy ≤ 24 := by simp at hv; omega
  array_get_dec
  refine o_ixc (by omega) (by omega) fun c hc1 => ?_
  array_get_dec
  refine o_ixc (l := [1, 7, 333, 999]) (by omega) (by show _ < (4 : Int); omega) fun st hst => ?_
  have hstep : 1 ≤ st ∧ st ≤ 999 := by simp at hst; omega
  array_get_dec
  refine cell_sp (by decide) fun v2 => ?_
  array_get_dec
  rw [show (2 : Int) + a % (9 - 1) = ((2 + a % (9 - 1)).toNat : Int) by omega]
  refine draws_sp (by omega) (by omega) (by omega) fun l2 hl2 hb2 => ?_
  array_get_dec
  refine w_lcM D.int (fun _ x => 0 ≤ x ∧ x < 1000) ?_
  array_get_dec
  refine ⟨by simp; omega, fun i d hd => ?_, fun as h1 h2 => ?_⟩
  · obtain ⟨y, hy, rfl⟩ : ∃ y, l2[i]? = some y ∧ D.int y = d := by simpa using hd
    have hy2 := hb2 y (List.mem_of_getElem? hy)
    show wO (tName 8 _ [_, _, _, _, _, _, _, _, none]) _
    array_get_dec
    unfold CE0_law_kinds
    array_get_dec
    refine o_ixc (by omega) (by omega) fun e he => ?_
    array_get_dec
    exact ⟨rfl, _, rfl, by omega, by omega⟩
  · array_get_dec
    refine h as ⟨?_, ?_, fun x hx => ?_⟩
    · rw [h1, List.length_map]; omega
    · rw [h1, List.length_map]; omega
    · obtain ⟨i, hi⟩ := List.mem_iff_getElem?.mp hx
      exact h2 i x hi
theorem o_ixl8 {l : List (List Int)} {k : Int} {P : D → Prop} (h0 : 0 ≤ k) (h1 : k < l.length) (h : ∀ v ∈ l, P (iD v)) : wO (fIx (.lst (l.map fun v => iD v)) (.int k)) P := o_ixM (f := fun v => iD v) h0 h1 fun v hv => h v (List.mem_of_getElem? hv)
theorem base_sp {ns : List Int} (h : ∀ ks, KsOk ks → Q (iD ks) S) : wF F__law_base [iD ns, .int 0, .int 9] S Q X := by
  refine o__law_base ?_
  unfold m__law_base
  array_get_dec
  refine cell_sp (by decide) fun v => ?_
  array_get_dec
  refine draws_sp (n := 2) (by decide) (by decide) (by decide) fun l hl hb => ?_
  array_get_dec
  refine o_ixc (by omega) (by omega) fun a ha => ?_
  array_get_dec
  · refine o_ixc (by omega) (by omega) fun b hb1 => ?_
    array_get_dec
    refine o_ixl8 (l := [[5, 5], [9, 5], [4, 4, 4, 4], [1, 1, 1, 2], [1, 1, 2, 1], [1, 1, 2, 1, 1, 1], [1, 2, 1, 3, 1], [1, 1, 2, 2, 1, 1]]) (by omega) (by show _ < (8 : Int); omega) fun ks hk => ?_
    array_get_dec
    refine h ks ?_
    simp only [List.mem_cons, List.not_mem_nil, or_false] at hk
    rcases hk with rfl | rfl | rfl | rfl | rfl | rfl | rfl | rfl <;> exact ⟨by decide, by decide, by decide⟩
  · refine kinds_sp fun ks hk => ?_
    array_get_dec
    exact h ks hk
end K27
end
section
set_option Elab.async false
set_option linter.all false
set_option maxRecDepth 100000
set_option maxHeartbeats 4000000
local macro_rules | `(tactic| array_mem_dec) => `(tactic| first
  | with_reducible refine Sm.s_sq ?_
  | with_reducible refine Sm.s_put ?_
  | with_reducible refine Sm.s_own ?_
  | with_reducible refine Sm.s_if ?_
  | with_reducible refine Sm.s_ret ?_
  | with_reducible refine Sm.s_skip ?_
  | with_reducible refine Sm.s_do ?_
  | with_reducible refine Sm.s_retN ?_
  | with_reducible refine Sm.s_for ?_
  | with_reducible refine Sm.s_raise ?_
  | with_reducible refine Sm.s_setF ?_
  | with_reducible refine Sm.s_brk ?_
  | with_reducible refine Sm.s_cont ?_
  | ((with_reducible refine Sm.s_ownS (d := ?d) ?e ?l ?_); (case e => rfl); (case l => rfl))
  | ((with_reducible refine Sm.s_setIx (xs := ?xs) ?e ?_); (case e => intro _; rfl))
  | with_reducible refine Sm.w_C ?_
  | ((with_reducible refine Sm.w_var (d := ?d) ?e ?_); (case e => rfl))
  | with_reducible refine Sm.w_op ?_
  | with_reducible refine Sm.w_un ?_
  | with_reducible refine Sm.w_cons ?_
  | with_reducible refine Sm.w_nil ?_
  | with_reducible refine Sm.w_lst ?_
  | with_reducible refine Sm.w_tup ?_
  | with_reducible refine Sm.w_cal ?_
  | with_reducible refine Sm.w_call ?_
  | with_reducible refine Sm.w_callV ?_
  | with_reducible refine Sm.w_meth ?_
  | with_reducible refine Sm.w_fld ?_
  | with_reducible refine Sm.w_prp ?_
  | with_reducible refine Sm.w_mk ?_
  | with_reducible refine Sm.w_perm ?_
  | with_reducible refine Sm.w_m1 ?_
  | with_reducible refine Sm.w_sl ?_
  | with_reducible refine Sm.w_part0 ?_
  | with_reducible refine Sm.w_part ?_
  | with_reducible refine Sm.w_and ?_
  | with_reducible refine Sm.w_or ?_
  | with_reducible refine Sm.w_not ?_
  | with_reducible refine Sm.w_ife ?_
  | with_reducible refine Sm.w_seq ?_
  | with_reducible refine Sm.w_rng ?_
  | with_reducible refine Sm.l_nil ?_
  | with_reducible refine Sm.l_cons ?_
  | with_reducible refine Sm.o_tupT ?_
  | with_reducible refine Sm.o_sets0 ?_
  | with_reducible refine Sm.o_sets ?_
  | with_reducible refine Sm.w_seqA ?_
  | with_reducible refine Sm.o_itAl ?_
  | with_reducible refine Sm.o_itAt ?_
  | with_reducible refine Sm.o_itAs ?_
  | with_reducible refine Sm.w_enum ?_
  | with_reducible refine Sm.o_enum ?_
  | with_reducible refine Sm.w_zip ?_
  | with_reducible refine Sm.o_zipl ?_
  | with_reducible refine Sm.o_zipt ?_
  | with_reducible refine Sm.w_idx ?_
  | with_reducible refine Sm.ex_lst ?_
  | with_reducible refine Sm.w_sel ?_
  | with_reducible refine Sm.w_m0 ?_
  | with_reducible refine Sm.w_lrg ?_
  | with_reducible refine Sm.w_trg ?_
  | with_reducible refine Sm.w_iso ?_
  | with_reducible refine Sm.s_try ?_
  | with_reducible refine Sm.rt_ret ?_
  | with_reducible refine Sm.rt_err ?_
  | with_reducible refine Sm.ru_ret ?_
  | ((with_reducible refine Sm.h_yes ?e ?g ?_); (case e => rfl); (case g => first | rfl | (simp; done)))
  | ((with_reducible refine Sm.h_no ?e ?_); (case e => rfl))
  | with_reducible refine Sm.h_out ?_
  | ((with_reducible refine Sm.w_xf (k := ?k) (d := ?d) ?a ?e ?g ?_); (case a => rfl); (case e => rfl); (case g => rfl))
  | ((with_reducible refine Sm.w_isX (k := ?k) ?a ?e ?_); (case a => rfl); (case e => rfl))
  | with_reducible refine Sm.o_wrA ?_
  | ((with_reducible refine Sm.o_rdA (k := ?k) (d := ?d) ?e ?g ?_); (case e => rfl); (case g => rfl))
  | ((with_reducible refine Sm.o_strI ?e ?g ?_); (case e => omega); (case g => omega))
  | ((with_reducible refine Sm.o_lenS ?e ?_); (case e => omega))
  | ((with_reducible refine Sm.o_slS ?e ?_); (case e => omega))
  | with_reducible refine Sm.o_nis ?_
  | with_reducible refine Sm.o_ins ?_
  | with_reducible refine Sm.t_tst ?_
  | with_reducible refine Sm.t_tru ?_
  | with_reducible refine Sm.t_and ?_
  | with_reducible refine Sm.t_or ?_
  | with_reducible refine Sm.t_not ?_
  | with_reducible refine Sm.t_yes ?_
  | with_reducible refine Sm.r_ret ?_
  | with_reducible refine Sm.r_err ?_
  | with_reducible refine Sm.l_ret ?_
  | with_reducible refine Sm.l_err ?_
  | with_reducible refine Sm.l_brk ?_
  | with_reducible refine Sm.l_cont ?_
  | ((with_reducible refine Sm.o_name (sl1 := ?sl) ?e ?g ?_); (case e => simp); (case g => simp only [List.set_cons_succ, List.set_cons_zero]; rfl))
  | ((with_reducible refine Sm.o_mul ?e ?_); (case e => first | exact .inl (by decide) | exact .inr (by decide) | exact .inl (Sm.sm_of (by omega) (by omega)) | exact .inr (Sm.sm_of (by omega) (by omega))))
  | ((with_reducible refine Sm.o_mod ?e ?_); (case e => first | decide | omega))
  | ((with_reducible refine Sm.o_fdiv ?e ?g ?_); (case e => first | decide | omega); (case g => first | decide | omega))
  | with_reducible refine Sm.o_truthi ?_
  | with_reducible refine Sm.o_truthl ?_
  | with_reducible refine Sm.o_trutht ?_
  | with_reducible refine Sm.o_truthb ?_
  | with_reducible refine Sm.o_truthn ?_
  | ((with_reducible refine Sm.o_truths ?e ?_); (case e => first | decide | omega))
  | ((with_reducible refine Sm.o_catl ?e ?_); (case e => first | (simp; done) | (simp; omega)))
  | ((with_reducible refine Sm.o_app ?e ?_); (case e => first | omega | (simp; done) | (simp; omega)))
  | ((with_reducible refine Sm.o_rng1 ?e ?g ?_); (case e => omega); (case g => omega))
  | ((with_reducible refine Sm.o_rng2 ?e ?g ?a ?b ?_); (case e => omega); (case g => omega); (case a => omega); (case b => omega))
  | with_reducible refine Sm.o_itl ?_
  | with_reducible refine Sm.o_itt ?_
  | with_reducible refine Sm.o_iz Sm.p4 ?_
  | with_reducible refine Sm.o_iz Sm.p9 ?_
  | with_reducible refine Sm.o_iz Sm.p12 ?_
  | with_reducible refine Sm.o_iz Sm.p13 ?_
  | with_reducible refine Sm.o_iz Sm.p18 ?_
  | with_reducible refine Sm.o_iz Sm.p20 ?_
  | with_reducible refine Sm.o_iz Sm.p30 ?_
  | with_reducible refine Sm.o_iz Sm.p40 ?_
  | with_reducible refine Sm.o_some ?_
  | ((with_reducible refine Sm.o_iz (z := ?z) ?e ?_); (case e => first | assumption | rfl))
  | with_reducible refine Sm.b_true ?_
  | with_reducible refine Sm.b_false ?_
  | with_reducible refine Sm.b_neg ?_
  | ((with_reducible refine Sm.b_ist ?e ?_); (case e => rfl))
  | ((with_reducible refine Sm.b_isf ?e ?_); (case e => rfl))
  | ((with_reducible refine Sm.b_yes ?e ?_); (case e => first | rfl | decide | assumption | omega))
  | ((with_reducible refine Sm.b_no ?e ?_); (case e => first | decide | assumption | omega))
  | with_reducible refine Sm.b_dec (fun _ => ?_) (fun _ => ?_)
  | with_reducible refine Sm.b_var (fun _ => ?_) (fun _ => ?_)
  | ((with_reducible refine Sm.and_fit ?e ?_); (case e => first | (simp; done) | omega | (simp; omega)))
  | ((with_reducible refine Sm.and_len ?e ?_); (case e => first | rfl | (simp; done)))
  | ((with_reducible refine Sm.and_cls ?e ?_); (case e => first | rfl | assumption))
  | ((with_reducible refine Sm.and_atom ?e ?_); (case e => rfl))
  | with_reducible refine Sm.and_non ?_
  | with_reducible refine Sm.ex_str ?_
  | with_reducible refine Sm.ex_int ?_)
local macro_rules | `(tactic| array_get_dec) => `(tactic| repeat' array_mem_dec)
namespace K27
open PySem Sm
variable {S : Sto} {Q : D → Sto → Prop} {X : Exc → Sto → Prop}
theorem o_ixn {l : List Int} {k : Int} {P : D → Prop} (h0 : -(l.length : Int) ≤ k) (h1 : k < l.length) (h : ∀ v, P (.int v)) : wO (fIx (.tup (l.map D.int)) (.int k)) P := by
  by_cases q : 0 ≤ k
  · exact o_ixMt q h1 fun v _ => h v
  · refine ⟨.int (l.getD (k + l.length).toNat 0), ?_, h _⟩
    show L2.atI (l.map D.int) k = _
    unfold L2.atI L2.ixN
    rw [List.length_map, if_neg q, if_pos h0]
    show (l.map D.int)[_]? = _
    rw [List.getElem?_map, List.getElem?_eq_getElem (by omega), List.getD_eq_getElem?_getD, List.getElem?_eq_getElem (by omega)]
    rfl
theorem o_lset {l : List Int} {P : D → Prop} (hl : l.length < 64) (h : ∀ v, P (.int v)) : wO (fLenSet (.tup (l.map .int))) P := by
  refine ⟨_, ?_, h (ddI l).length⟩
  unfold fLenSet
  simp only [toInts_map, if_pos hl]
def strOb (ks : List Int) (u e v : D) : Ob := ⟨49, [some (.tup (ks.map .int)), some (.int ks.length), some u, some e, some v]⟩
theorem strand_sp {ks : List Int} (hk : KsOk ks) (h : ∀ u e v, Q .non (S ++ [strOb ks u e v])) : wF F_Strand_init [.ref S.length, iD ks] (S ++ [⟨49, List.replicate 5 none⟩]) Q X := by
  obtain ⟨k1, k2, k3⟩ := hk
  refine o_Strand_init ?_
  unfold m_Strand_init
  array_get_dec
  · rename_i q; rw [List.length_map] at q; omega
  · rename_i q; rw [List.length_map] at q; omega
  rw [List.length_map]
  refine l_inv (fun k sl S1 => S1 = S ++ [⟨49, List.replicate 5 none⟩] ∧ ∃ o3, sl = [some (.ref S.length), some (.tup (ks.map .int)), some (.int ks.length), o3]) ⟨rfl, none, rfl⟩ (fun sl S1 hh => ?_) (fun i d sl S1 hd hh => ?_)
  · obtain ⟨rfl, o3, rfl⟩ := hh
    array_get_dec
    refine w_lc (fun _ _ => True) ?_
    array_get_dec
    refine ⟨by simp [rng]; omega, fun i d hd => ?_, fun os h1 h2 => ?_⟩
    · obtain ⟨hi, rfl⟩ := rng_at hd
      have hi : i < ks.length := by simpa using hi
      show wO (tName 3 _ [_, _, _, none]) _
      array_get_dec
      unfold CT1_Strand___init
      array_get_dec
      refine o_ixn (by omega) (by omega) fun v => ?_
      array_get_dec
      refine o_ixn (by omega) (by omega) fun v2 => ?_
      array_get_dec
      · exact ⟨rfl, trivial⟩
      · refine ⟨rfl, ?_⟩
        unfold CE2_Strand___init
        array_get_dec
        exact ⟨rfl, trivial⟩
    · array_get_dec
      refine o_ixn (by omega) (by omega) fun v => ?_
      array_get_dec
      refine o_ixn (by omega) (by omega) fun v2 => ?_
      array_get_dec
      refine o_lset (by omega) fun v3 => ?_
      array_get_dec
      exact h _ _ _
  · obtain ⟨rfl, o3, rfl⟩ := hh
    obtain ⟨hi, rfl⟩ := rng_at hd
    have hi : i < ks.length := by simpa using hi
    unfold L0_Strand___init
    array_get_dec
    refine o_ixMt (by omega) (by omega) fun v hv => ?_
    have hv := k3 v (List.mem_of_getElem? hv)
    array_get_dec
    refine o_ixMt (by omega) (by omega) fun v2 hv2 => ?_
    have hv2 := k3 v2 (List.mem_of_getElem? hv2)
    array_get_dec
    exact ⟨rfl, _, rfl⟩
theorem row_sp {s : Nat} {ks : List Int} {u e v : D} (hk : KsOk ks) (hs : S[s]? = some (strOb ks u e v)) (h : ∀ o, RowAt ks [] S.length (S ++ [o]) → Q .non (S ++ [o])) : wF F_Row_init [.ref S.length, .ref s] (S ++ [⟨52, List.replicate 6 none⟩]) Q X := by
  obtain ⟨k1, k2, k3⟩ := hk
  have hl : s < S.length := (List.getElem?_eq_some_iff.mp hs).1
  have hs' : ∀ o, (S ++ [o])[s]? = some (strOb ks u e v) := fun o => by rw [List.getElem?_append_left hl]; exact hs
  refine o_Row_init ?_
  unfold m_Row_init
  array_get_dec
  refine o_iz (rd_at (hs' _) rfl rfl) ?_
  array_get_dec
  refine o_iz (rd_at (hs' _) rfl rfl) ?_
  array_get_dec
  refine o_r1 (by omega) (by omega) ?_
  array_get_dec
  refine w_lcM (α := D) id (fun _ _ => True) ?_
  array_get_dec
  refine o_iz (rd_at (hs' _) rfl rfl) ?_
  array_get_dec
  refine ⟨by simp [rng]; omega, fun i d hd => ?_, fun as h1 h2 => ?_⟩
  · obtain ⟨hi, rfl⟩ := rng_at hd
    show wO (tName 2 _ [_, _, none]) _
    array_get_dec
    unfold CE0_Row___init
    array_get_dec
    exact ⟨rfl, _, rfl, trivial⟩
  · array_get_dec
    refine h _ ⟨[], as.map id, ?_, rfl, ?_⟩
    · rw [ap_get, rg_nil]
      unfold rowOb
      rw [show iD (rg ks.length) = .lst (rng 0 ((ks.length : Int)).toNat) by rw [show ((ks.length : Int)).toNat = ks.length by omega, rg_rng]]
      rfl
    · rw [List.length_map, h1]
      simp [rng]
theorem ap2_set {a b c : Ob} : (S ++ [a] ++ [b]).set S.length c = S ++ [c] ++ [b] := by simp
theorem game_sp {s : Nat} {ks : List Int} {u e v z : D} (hk : KsOk ks) (hs : S[s]? = some (strOb ks u e v)) (h : ∀ o, RowAt ks [] (S.length + 1) (S ++ [⟨56, [some (.ref (S.length + 1)), some z]⟩] ++ [o]) → Q .non (S ++ [⟨56, [some (.ref (S.length + 1)), some z]⟩] ++ [o])) : wF F_Game_init [.ref S.length, .ref s, z] (S ++ [⟨56, List.replicate 2 none⟩]) Q X := by
  have hl : s < S.length := (List.getElem?_eq_some_iff.mp hs).1
  refine o_Game_init ?_
  unfold m_Game_init
  array_get_dec
  refine row_sp hk (s := s) (by rw [List.getElem?_append_left hl]; exact hs) fun o ho => ?_
  refine ⟨rfl, ?_⟩
  array_get_dec
  rw [List.length_append, List.length_singleton] at ho ⊢
  refine o_wr (show (S ++ [_] ++ [o])[S.length]? = some _ by simp; rfl) ?_
  rw [ap2_set]
  array_get_dec
  refine o_wr (show (S ++ [_] ++ [o])[S.length]? = some _ by simp; rfl) ?_
  rw [ap2_set]
  refine h o ?_
  obtain ⟨mks, mts, e, l⟩ := ho
  refine ⟨mks, mts, ?_, l⟩
  rw [← e]
  rw [List.getElem?_append_right (by simp), List.getElem?_append_right (by simp)]
  simp
theorem lgame_sp {s : Nat} {ks : List Int} {u e v : D} {k : Int} (hk : KsOk ks) (hs : S[s]? = some (strOb ks u e v)) (h : ∀ o z, RowAt ks [] (S.length + 1) (S ++ [⟨56, [some (.ref (S.length + 1)), some z]⟩] ++ [o]) → Q (.ref S.length) (S ++ [⟨56, [some (.ref (S.length + 1)), some z]⟩] ++ [o])) : wF F__law_game [.ref s, .int k] S Q X := by
  refine o__law_game ?_
  unfold m__law_game
  array_get_dec
  all_goals
    refine game_sp hk hs fun o ho => ?_
    refine ⟨rfl, ?_⟩
    array_get_dec
    exact h o _ ho
end K27
end
section
set_option Elab.async false
set_option linter.all false
set_option maxRecDepth 100000
set_option maxHeartbeats 4000000
local macro_rules | `(tactic| array_mem_dec) => `(tactic| first
  | with_reducible refine Sm.s_sq ?_
  | with_reducible refine Sm.s_put ?_
  | with_reducible refine Sm.s_own ?_
  | with_reducible refine Sm.s_if ?_
  | with_reducible refine Sm.s_ret ?_
  | with_reducible refine Sm.s_skip ?_
  | with_reducible refine Sm.s_do ?_
  | with_reducible refine Sm.s_retN ?_
  | with_reducible refine Sm.s_for ?_
  | with_reducible refine Sm.s_raise ?_
  | with_reducible refine Sm.s_setF ?_
  | with_reducible refine Sm.s_brk ?_
  | with_reducible refine Sm.s_cont ?_
  | ((with_reducible refine Sm.s_ownS (d := ?d) ?e ?l ?_); (case e => rfl); (case l => rfl))
  | ((with_reducible refine Sm.s_setIx (xs := ?xs) ?e ?_); (case e => intro _; rfl))
  | with_reducible refine Sm.w_C ?_
  | ((with_reducible refine Sm.w_var (d := ?d) ?e ?_); (case e => rfl))
  | with_reducible refine Sm.w_op ?_
  | with_reducible refine Sm.w_un ?_
  | with_reducible refine Sm.w_cons ?_
  | with_reducible refine Sm.w_nil ?_
  | with_reducible refine Sm.w_lst ?_
  | with_reducible refine Sm.w_tup ?_
  | with_reducible refine Sm.w_cal ?_
  | with_reducible refine Sm.w_call ?_
  | with_reducible refine Sm.w_callV ?_
  | with_reducible refine Sm.w_meth ?_
  | with_reducible refine Sm.w_fld ?_
  | with_reducible refine Sm.w_prp ?_
  | with_reducible refine Sm.w_mk ?_
  | with_reducible refine Sm.w_perm ?_
  | with_reducible refine Sm.w_m1 ?_
  | with_reducible refine Sm.w_sl ?_
  | with_reducible refine Sm.w_part0 ?_
  | with_reducible refine Sm.w_part ?_
  | with_reducible refine Sm.w_and ?_
  | with_reducible refine Sm.w_or ?_
  | with_reducible refine Sm.w_not ?_
  | with_reducible refine Sm.w_ife ?_
  | with_reducible refine Sm.w_seq ?_
  | with_reducible refine Sm.w_rng ?_
  | with_reducible refine Sm.l_nil ?_
  | with_reducible refine Sm.l_cons ?_
  | with_reducible refine Sm.o_tupT ?_
  | with_reducible refine Sm.o_sets0 ?_
  | with_reducible refine Sm.o_sets ?_
  | with_reducible refine Sm.w_seqA ?_
  | with_reducible refine Sm.o_itAl ?_
  | with_reducible refine Sm.o_itAt ?_
  | with_reducible refine Sm.o_itAs ?_
  | with_reducible refine Sm.w_enum ?_
  | with_reducible refine Sm.o_enum ?_
  | with_reducible refine Sm.w_zip ?_
  | with_reducible refine Sm.o_zipl ?_
  | with_reducible refine Sm.o_zipt ?_
  | with_reducible refine Sm.w_idx ?_
  | with_reducible refine Sm.ex_lst ?_
  | with_reducible refine Sm.w_sel ?_
  | with_reducible refine Sm.w_m0 ?_
  | with_reducible refine Sm.w_lrg ?_
  | with_reducible refine Sm.w_trg ?_
  | with_reducible refine Sm.w_iso ?_
  | with_reducible refine Sm.s_try ?_
  | with_reducible refine Sm.rt_ret ?_
  | with_reducible refine Sm.rt_err ?_
  | with_reducible refine Sm.ru_ret ?_
  | ((with_reducible refine Sm.h_yes ?e ?g ?_); (case e => rfl); (case g => first | rfl | (simp; done)))
  | ((with_reducible refine Sm.h_no ?e ?_); (case e => rfl))
  | with_reducible refine Sm.h_out ?_
  | ((with_reducible refine Sm.w_xf (k := ?k) (d := ?d) ?a ?e ?g ?_); (case a => rfl); (case e => rfl); (case g => rfl))
  | ((with_reducible refine Sm.w_isX (k := ?k) ?a ?e ?_); (case a => rfl); (case e => rfl))
  | with_reducible refine Sm.o_wrA ?_
  | ((with_reducible refine Sm.o_rdA (k := ?k) (d := ?d) ?e ?g ?_); (case e => rfl); (case g => rfl))
  | ((with_reducible refine Sm.o_strI ?e ?g ?_); (case e => omega); (case g => omega))
  | ((with_reducible refine Sm.o_lenS ?e ?_); (case e => omega))
  | ((with_reducible refine Sm.o_slS ?e ?_); (case e => omega))
  | with_reducible refine Sm.o_nis ?_
  | with_reducible refine Sm.o_ins ?_
  | with_reducible refine Sm.t_tst ?_
  | with_reducible refine Sm.t_tru ?_
  | with_reducible refine Sm.t_and ?_
  | with_reducible refine Sm.t_or ?_
  | with_reducible refine Sm.t_not ?_
  | with_reducible refine Sm.t_yes ?_
  | with_reducible refine Sm.r_ret ?_
  | with_reducible refine Sm.r_err ?_
  | with_reducible refine Sm.l_ret ?_
  | with_reducible refine Sm.l_err ?_
  | with_reducible refine Sm.l_brk ?_
  | with_reducible refine Sm.l_cont ?_
  | ((with_reducible refine Sm.o_name (sl1 := ?sl) ?e ?g ?_); (case e => simp); (case g => simp only [List.set_cons_succ, List.set_cons_zero]; rfl))
  | ((with_reducible refine Sm.o_mul ?e ?_); (case e => first | exact .inl (by decide) | exact .inr (by decide) | exact .inl (Sm.sm_of (by omega) (by omega)) | exact .inr (Sm.sm_of (by omega) (by omega))))
  | ((with_reducible refine Sm.o_mod ?e ?_); (case e => first | decide | omega))
  | ((with_reducible refine Sm.o_fdiv ?e ?g ?_); (case e => first | decide | omega); (case g => first | decide | omega))
  | with_reducible refine Sm.o_truthi ?_
  | with_reducible refine Sm.o_truthl ?_
  | with_reducible refine Sm.o_trutht ?_
  | with_reducible refine Sm.o_truthb ?_
  | with_reducible refine Sm.o_truthn ?_
  | ((with_reducible refine Sm.o_truths ?e ?_); (case e => first | decide | omega))
  | ((with_reducible refine Sm.o_catl ?e ?_); (case e => first | (simp; done) | (simp; omega)))
  | ((with_reducible refine Sm.o_app ?e ?_); (case e => first | omega | (simp; done) | (simp; omega)))
  | ((with_reducible refine Sm.o_rng1 ?e ?g ?_); (case e => omega); (case g => omega))
  | ((with_reducible refine Sm.o_rng2 ?e ?g ?a ?b ?_); (case e => omega); (case g => omega); (case a => omega); (case b => omega))
  | with_reducible refine Sm.o_itl ?_
  | with_reducible refine Sm.o_itt ?_
  | with_reducible refine Sm.o_iz Sm.p4 ?_
  | with_reducible refine Sm.o_iz Sm.p9 ?_
  | with_reducible refine Sm.o_iz Sm.p12 ?_
  | with_reducible refine Sm.o_iz Sm.p13 ?_
  | with_reducible refine Sm.o_iz Sm.p18 ?_
  | with_reducible refine Sm.o_iz Sm.p20 ?_
  | with_reducible refine Sm.o_iz Sm.p30 ?_
  | with_reducible refine Sm.o_iz Sm.p40 ?_
  | with_reducible refine Sm.o_some ?_
  | ((with_reducible refine Sm.o_iz (z := ?z) ?e ?_); (case e => first | assumption | rfl))
  | with_reducible refine Sm.b_true ?_
  | with_reducible refine Sm.b_false ?_
  | with_reducible refine Sm.b_neg ?_
  | ((with_reducible refine Sm.b_ist ?e ?_); (case e => rfl))
  | ((with_reducible refine Sm.b_isf ?e ?_); (case e => rfl))
  | ((with_reducible refine Sm.b_yes ?e ?_); (case e => first | rfl | decide | assumption | omega))
  | ((with_reducible refine Sm.b_no ?e ?_); (case e => first | decide | assumption | omega))
  | with_reducible refine Sm.b_dec (fun _ => ?_) (fun _ => ?_)
  | with_reducible refine Sm.b_var (fun _ => ?_) (fun _ => ?_)
  | ((with_reducible refine Sm.and_fit ?e ?_); (case e => first | (simp; done) | omega | (simp; omega)))
  | ((with_reducible refine Sm.and_len ?e ?_); (case e => first | rfl | (simp; done)))
  | ((with_reducible refine Sm.and_cls ?e ?_); (case e => first | rfl | assumption))
  | ((with_reducible refine Sm.and_atom ?e ?_); (case e => rfl))
  | with_reducible refine Sm.and_non ?_
  | with_reducible refine Sm.ex_str ?_
  | with_reducible refine Sm.ex_int ?_)
local macro_rules | `(tactic| array_get_dec) => `(tactic| repeat' array_mem_dec)
namespace K27
open PySem Sm
variable {S : Sto} {Q : D → Sto → Prop} {X : Exc → Sto → Prop}
theorem cut_last {l : List Int} {b : Int} : cutD ((l ++ [b]).map D.int) (some (-1)) none = [.int b] := by
  unfold cutD
  have e1 : HT.sIx ((l ++ [b]).map D.int).length 0 (some (-1)) = l.length := by
    show (if (-1 : Int) < 0 then ((-1 : Int) + ((((l ++ [b]).map D.int).length : Nat) : Int)).toNat else min (-1 : Int).toNat ((l ++ [b]).map D.int).length) = _
    rw [if_pos (by decide)]
    simp
    omega
  rw [e1, HT.sIx_none]
  simp
theorem cut_init {l : List Int} {b : Int} : cutD ((l ++ [b]).map D.int) none (some (-1)) = l.map D.int := by
  unfold cutD
  have e1 : HT.sIx ((l ++ [b]).map D.int).length ((l ++ [b]).map D.int).length (some (-1)) = l.length := by
    show (if (-1 : Int) < 0 then ((-1 : Int) + ((((l ++ [b]).map D.int).length : Nat) : Int)).toNat else min (-1 : Int).toNat ((l ++ [b]).map D.int).length) = _
    rw [if_pos (by decide)]
    simp
    omega
  rw [e1, HT.sIx_none]
  simp
theorem Tk.more {n : Nat} {T : List Int} {b : Int} (h : Tk n T) (hb : 0 < b ∧ b < n - 1) (hn : b ∉ T) : Tk n (T ++ [b]) := ⟨by
  rw [List.nodup_append]
  exact ⟨h.nd, by simp, fun x hx y hy => by rw [List.mem_singleton] at hy; subst hy; exact fun e => hn (e ▸ hx)⟩, fun x hx => by
  rcases List.mem_append.mp hx with hx | hx
  · exact h.inn x hx
  · rw [List.mem_singleton] at hx; subst hx; exact hb⟩
theorem pd_three {n : Nat} {w : Str} {b : Int} {k : Bool} : pd (n + 2) (.tup [.str w, .int b, .bl k]) := ⟨by simp, fun d hd => by simp at hd; rcases hd with rfl | rfl | rfl <;> trivial⟩
theorem inn_pos {n : Nat} {T : List Int} {y : Int} (hy : y ∈ inn (stOf n T)) : 1 ≤ (stOf n T).idxOf y ∧ (stOf n T).idxOf y + 1 < (stOf n T).length := by
  obtain ⟨i, hi⟩ := List.mem_iff_getElem?.mp hy
  obtain ⟨h1, rfl⟩ := inn_at hi
  rw [idx_at st_nd (by omega)]
  omega
theorem loop_sp {ks pk : List Int} {x0 x2 x3 z1 z2 : D} (hk : KsOk ks) (hG1 : S[1]? = some ⟨56, [some (.ref 2), some z1]⟩) (hR1 : RowAt ks [] 2 S) (hG2 : S[3]? = some ⟨56, [some (.ref 4), some z2]⟩) (hR2 : RowAt ks [] 4 S) (hpk : pk.length = 30) (hpb : ∀ x ∈ pk, 0 ≤ x ∧ x < 240) (h : ∀ S', Q (.bl true) S') :
    wS (loopF (tName 9) L2_law (rng 0 (Int.toNat 10))) [some x0, some (iD ks), some x2, some x3, some (.ref 1), some (.ref 3), some (iD pk), some (iD (rg ks.length)), some (.lst []), none, none, none, none, none, none] S
    (fun sl1 S1 => wS (mRet (mAnd (mCall F__law_all_undone (mCons (mVar 4) (mCons (mVar 1) (mCons (mVar 8) mNil)))) (mCall F__law_apart (mCons (mVar 4) (mCons (mVar 5) (mCons (mVar 1) mNil)))))) sl1 S1 (fun x S1 => Q D.non S1) (rF Q X)) (rF Q X) := by
  have h2 := hk.1
  have h9 := hk.2.1
  have hk24 : ks.length ≤ 24 := by omega
  refine l_inv (fun k sl S1 => ∃ T o9 o10 o11 o12 o13, Tk ks.length T ∧ RowAt ks T 2 S1 ∧ Upd 2 S S1 ∧ sl = [some x0, some (iD ks), some x2, some x3, some (.ref 1), some (.ref 3), some (iD pk), some (iD (stOf ks.length T)), some (iD T), o9, o10, o11, o12, o13, none]) ⟨[], none, none, none, none, none, ⟨List.nodup_nil, by simp⟩, hR1, Upd.refl, by rw [rg_nil]; rfl⟩ (fun sl S1 hh => ?_) (fun i d sl S1 hd hh => ?_)
  · obtain ⟨T, o9, o10, o11, o12, o13, ht, a1, a2, rfl⟩ := hh
    have g1 : S1[1]? = some ⟨56, [some (.ref 2), some z1]⟩ := by rw [a2 1 (by decide)]; exact hG1
    array_get_dec
    refine all_undone_sp h2 hk24 ht (by decide) g1 a1 fun S2 a3 a4 => ?_
    have u2 := a2.trans a4
    have g1 : S2[1]? = some ⟨56, [some (.ref 2), some z1]⟩ := by rw [u2 1 (by decide)]; exact hG1
    have g2 : S2[3]? = some ⟨56, [some (.ref 4), some z2]⟩ := by rw [u2 3 (by decide)]; exact hG2
    have r2 : RowAt ks [] 4 S2 := by
      obtain ⟨mks, mts, e, p⟩ := hR2
      exact ⟨mks, mts, by rw [u2 4 (by decide)]; exact e, p⟩
    array_get_dec
    refine apart_sp h2 hk24 (by decide) (by decide) (by decide) g1 a3 g2 r2 fun S3 => ?_
    array_get_dec
    exact h _
  · obtain ⟨T, o9, o10, o11, o12, o13, ht, a1, a2, rfl⟩ := hh
    obtain ⟨hi, rfl⟩ := rng_at hd
    have hi : i < 10 := by simpa using hi
    have g1 : S1[1]? = some ⟨56, [some (.ref 2), some z1]⟩ := by rw [a2 1 (by decide)]; exact hG1
    have hl := st_len (n := ks.length) (T := T)
    have hT := tk_len ht
    have hc : T = [] ∨ ∃ T0 c, T = T0 ++ [c] := by
      rcases List.eq_nil_or_concat T with e | ⟨a, b, e⟩
      · exact .inl e
      · exact .inr ⟨a, b, by rw [e, List.concat_eq_append]⟩
    unfold L2_law
    array_get_dec
    rw [List.length_map]
    refine RowAt.told h2 hk24 ht g1 a1 ?_
    array_get_dec
    refine o_ixc (by omega) (by omega) fun p1 hp1 => ?_
    have hp1 := hpb p1 hp1
    array_get_dec
    refine bad_sp h2 hk24 ht (by omega) fun b w hb => ?_
    array_get_dec
    refine RowAt.bad h2 hk24 ht g1 a1 hb ?_
    array_get_dec
    refine same_sp pd_three ?_
    array_get_dec
    rw [List.length_map]
    refine RowAt.told h2 hk24 ht g1 a1 ?_
    array_get_dec
    refine allowed_sp ok_st st_nd (len2 h2 ht) (by omega) ?_
    array_get_dec
    · rcases hc with rfl | ⟨T0, c, rfl⟩
      · refine RowAt.isU0 g1 a1 ?_
        array_get_dec
        rw [show cutD (List.map D.int []) (some (-1)) none = [] by rfl]
        array_get_dec
        rw [List.append_nil]
        refine o_sorted ?_
        rw [st_sort]
        array_get_dec
        exact ⟨[], _, _, _, _, _, ht, a1, a2, rfl⟩
      · refine RowAt.isU h2 hk24 ht g1 a1 fun S2 a3 a4 => ?_
        array_get_dec
        rw [cut_last]
        array_get_dec
        rw [show (stOf ks.length (T0 ++ [c])).map D.int ++ [D.int c] = (stOf ks.length (T0 ++ [c]) ++ [c]).map D.int by simp]
        refine o_sorted ?_
        rw [st_back ht]
        array_get_dec
        rw [cut_init]
        exact ⟨T0, _, _, _, _, _, ht.pre, a3, a2.trans a4, rfl⟩
    · rename_i q
      rw [List.length_map] at q
      refine o_ixc (by omega) (by omega) fun p2 hp2 => ?_
      array_get_dec
      · rcases hc with rfl | ⟨T0, c, rfl⟩
        · refine RowAt.isU0 g1 a1 ?_
          array_get_dec
          rw [show cutD (List.map D.int []) (some (-1)) none = [] by rfl]
          array_get_dec
          rw [List.append_nil]
          refine o_sorted ?_
          rw [st_sort]
          array_get_dec
          exact ⟨[], _, _, _, _, _, ht, a1, a2, rfl⟩
        · refine RowAt.isU h2 hk24 ht g1 a1 fun S2 a3 a4 => ?_
          array_get_dec
          rw [cut_last]
          array_get_dec
          rw [show (stOf ks.length (T0 ++ [c])).map D.int ++ [D.int c] = (stOf ks.length (T0 ++ [c]) ++ [c]).map D.int by simp]
          refine o_sorted ?_
          rw [st_back ht]
          array_get_dec
          rw [cut_init]
          exact ⟨T0, _, _, _, _, _, ht.pre, a3, a2.trans a4, rfl⟩
      · refine o_ixc (by omega) (by omega) fun p3 hp3 => ?_
        have hp3 := hpb p3 hp3
        array_get_dec
        rw [List.length_map]
        array_get_dec
        refine o_ixc (Int.emod_nonneg _ (by omega)) (Int.emod_lt_of_pos _ (by omega)) fun y hy => ?_
        obtain ⟨m1, m2⟩ := alw_in h2 ht hy
        array_get_dec
        refine o_idx m1 ?_
        array_get_dec
        have hy' := hy
        unfold alw at hy'
        obtain ⟨n1, n2⟩ := inn_pos (List.mem_filter.mp hy').1
        refine mark_at_sp ok_st n1 n2 ?_
        rw [show mkAt ks (stOf ks.length T) ((stOf ks.length T).idxOf y) = mkB ks (stOf ks.length T) y from rfl]
        array_get_dec
        refine RowAt.moved h2 hk24 ht g1 a1 hy fun S2 a3 a4 => ?_
        array_get_dec
        refine same_sp (pd_two trivial trivial) ?_
        array_get_dec
        refine w_lcF (f := D.int) (stOf ks.length T) (fun x => !decide (x = y)) (fun x => .int x) (fun x y e => by injection e) ?_
        array_get_dec
        refine ⟨rfl, by omega, fun i x hx => ?_, ?_⟩
        · show wO (tName 14 _ [_, _, _, _, _, _, _, _, _, _, _, _, _, _, none]) _
          array_get_dec
          unfold CT0_law
          array_get_dec
          · exact ⟨rfl, by simp_all⟩
          · refine ⟨rfl, ?_⟩
            unfold CE1_law
            array_get_dec
            exact ⟨rfl, by simp_all, rfl⟩
        rw [st_take]
        array_get_dec
        rw [show T.map D.int ++ [D.int y] = (T ++ [y]).map D.int by simp]
        exact ⟨T ++ [y], _, _, _, _, _, ht.more m2 (st_mem.mp m1).2, a3, a2.trans a4, rfl⟩
theorem law_sp {ns : List Int} (h : ∀ S', Q (.bl true) S') : wF F_law [iD ns] [] Q X := by
  refine o_law ?_
  unfold m_law
  array_get_dec
  refine base_sp fun ks hk => ?_
  array_get_dec
  refine cell_sp (by decide) fun v => ?_
  array_get_dec
  refine draws_sp (n := 2) (by decide) (by decide) (by decide) fun ch hch hcb => ?_
  array_get_dec
  refine strand_sp (S := []) hk fun u e v => ?_
  refine ⟨rfl, ?_⟩
  array_get_dec
  refine o_ixc (by omega) (by omega) fun c1 hc1 => ?_
  array_get_dec
  refine lgame_sp (s := 0) hk rfl fun o1 z1 hr1 => ?_
  array_get_dec
  refine o_ixc (by omega) (by omega) fun c2 hc2 => ?_
  array_get_dec
  refine lgame_sp (s := 0) hk rfl fun o2 z2 hr2 => ?_
  array_get_dec
  refine cell_sp (by decide) fun v2 => ?_
  array_get_dec
  refine draws_sp (n := 30) (by decide) (by decide) (by decide) fun pk hpk hpb => ?_
  array_get_dec
  rw [List.length_map]
  refine o_r1 (by have := hk.2.1; omega) (by have := hk.2.1; omega) ?_
  array_get_dec
  rw [show ((ks.length : Int)).toNat = ks.length by omega, rg_rng (n := ks.length)]
  exact loop_sp (S := [strOb ks u e v, ⟨56, [some (.ref 2), some z1]⟩, o1, ⟨56, [some (.ref 4), some z2]⟩, o2]) hk rfl hr1 rfl hr2 hpk hpb h
theorem law_true (ns : List Int) (hn : ns.length ≤ 63) : ∃ S, F_law [.lst (ns.map D.int)] [] = .ok (.bl true) S := by
  have := law_sp (ns := ns) (Q := fun d _ => d = .bl true) (X := fun _ _ => False) fun _ => rfl
  unfold wF at this
  cases e : F_law [.lst (ns.map D.int)] [] with
  | ok d S => rw [e] at this; exact ⟨S, by rw [show d = .bl true from this]⟩
  | err x S => rw [e] at this; exact this.elim
  | stuck => rw [e] at this; exact this.elim
end K27
end
set_option Elab.async false
set_option linter.all false
set_option maxRecDepth 100000
set_option maxHeartbeats 4000000
namespace K27
open PySem PySem.Spec PyProof.Rows L2 Sm
def adr (l : List Addr) (i : Nat) : Addr := l.getD i 0
theorem all_mk {P : Program} {K : PySem.W.Frag} {h : Heap} {mg : Str → Option Value} {C0 C1 C2 C5 C6 C7 C9 C10 C38 C49 C52 C56 f_49_init f_52_init f_52_standing p_52_standing f_52_taken p_52_taken f_52_check_standing f_52_check_inner f_52_neighbours f_52_mark f_52_take_out f_52_take f_52_put_back f_52_undo f_56_init kd_56_init f_56_turn p_56_turn f_56_standing p_56_standing f_56_moves f_56_is_over f_56_move f_56_undo f__law_mixed f__law_draws f__law_cell f__law_kinds f__law_base f__law_game f__law_mark f__law_mark_at f__law_allowed f__law_bad f__law_is_integer f__law_same f__law_undo f__law_is_undone f_mark_of f__law_is_told f__law_all_undone f__law_move f__law_apart f_law f_x1 cda_x1 cc_x1 N_x1 f_x5 cda_x5 cc_x5 N_x5 f_x6 cda_x6 cc_x6 N_x6 f_x7 cda_x7 cc_x7 N_x7 f_x38 cda_x38 cc_x38 N_x38 : Addr} {od_49_init an_49_init od_52_init an_52_init od_52_standing an_52_standing od_52_taken an_52_taken od_52_check_standing an_52_check_standing od_52_check_inner an_52_check_inner od_52_neighbours an_52_neighbours od_52_mark an_52_mark od_52_take_out an_52_take_out od_52_take an_52_take od_52_put_back an_52_put_back od_52_undo an_52_undo od_56_init an_56_init od_56_turn an_56_turn od_56_standing an_56_standing od_56_moves an_56_moves od_56_is_over an_56_is_over od_56_move an_56_move od_56_undo an_56_undo od__law_mixed an__law_mixed od__law_draws an__law_draws od__law_cell an__law_cell od__law_kinds an__law_kinds od__law_base an__law_base od__law_game an__law_game od__law_mark an__law_mark od__law_mark_at an__law_mark_at od__law_allowed an__law_allowed od__law_bad an__law_bad od__law_is_integer an__law_is_integer od__law_same an__law_same od__law_undo an__law_undo od__law_is_undone an__law_is_undone od_mark_of an_mark_of od__law_is_told an__law_is_told od__law_all_undone an__law_all_undone od__law_move an__law_move od__law_apart an__law_apart od_law an_law od_x1 an_x1 cdd_x1 cld_x1 od_x5 an_x5 cdd_x5 cld_x5 od_x6 an_x6 cdd_x6 cld_x6 od_x7 an_x7 cdd_x7 cld_x7 od_x38 an_x38 cdd_x38 cld_x38 : Option Addr} {sl_49_init sl_52_init sl_52_standing sl_52_taken sl_52_check_standing sl_52_check_inner sl_52_neighbours sl_52_mark sl_52_take_out sl_52_take sl_52_put_back sl_52_undo sl_56_init sl_56_turn sl_56_standing sl_56_moves sl_56_is_over sl_56_move sl_56_undo sl__law_mixed sl__law_draws sl__law_cell sl__law_kinds sl__law_base sl__law_game sl__law_mark sl__law_mark_at sl__law_allowed sl__law_bad sl__law_is_integer sl__law_same sl__law_undo sl__law_is_undone sl_mark_of sl__law_is_told sl__law_all_undone sl__law_move sl__law_apart sl_law sl_x1 ccs_x1 csl_x1 sl_x5 ccs_x5 csl_x5 sl_x6 ccs_x6 csl_x6 sl_x7 ccs_x7 csl_x7 sl_x38 ccs_x38 csl_x38 : Array (Option Value)} {oc_49_init kV_49_init dc_49_init pm_49_init cd_49_init ct_49_init oc_52_init kV_52_init dc_52_init pm_52_init cd_52_init ct_52_init oc_52_standing kV_52_standing dc_52_standing pm_52_standing cd_52_standing ct_52_standing oc_52_taken kV_52_taken dc_52_taken pm_52_taken cd_52_taken ct_52_taken oc_52_check_standing kV_52_check_standing dc_52_check_standing pm_52_check_standing cd_52_check_standing ct_52_check_standing oc_52_check_inner kV_52_check_inner dc_52_check_inner pm_52_check_inner cd_52_check_inner ct_52_check_inner oc_52_neighbours kV_52_neighbours dc_52_neighbours pm_52_neighbours cd_52_neighbours ct_52_neighbours oc_52_mark kV_52_mark dc_52_mark pm_52_mark cd_52_mark ct_52_mark oc_52_take_out kV_52_take_out dc_52_take_out pm_52_take_out cd_52_take_out ct_52_take_out oc_52_take kV_52_take dc_52_take pm_52_take cd_52_take ct_52_take oc_52_put_back kV_52_put_back dc_52_put_back pm_52_put_back cd_52_put_back ct_52_put_back oc_52_undo kV_52_undo dc_52_undo pm_52_undo cd_52_undo ct_52_undo oc_56_init kV_56_init dc_56_init pm_56_init cd_56_init ct_56_init oc_56_turn kV_56_turn dc_56_turn pm_56_turn cd_56_turn ct_56_turn oc_56_standing kV_56_standing dc_56_standing pm_56_standing cd_56_standing ct_56_standing oc_56_moves kV_56_moves dc_56_moves pm_56_moves cd_56_moves ct_56_moves oc_56_is_over kV_56_is_over dc_56_is_over pm_56_is_over cd_56_is_over ct_56_is_over oc_56_move kV_56_move dc_56_move pm_56_move cd_56_move ct_56_move oc_56_undo kV_56_undo dc_56_undo pm_56_undo cd_56_undo ct_56_undo oc__law_mixed kV__law_mixed dc__law_mixed pm__law_mixed cd__law_mixed ct__law_mixed oc__law_draws kV__law_draws dc__law_draws pm__law_draws cd__law_draws ct__law_draws oc__law_cell kV__law_cell dc__law_cell pm__law_cell cd__law_cell ct__law_cell oc__law_kinds kV__law_kinds dc__law_kinds pm__law_kinds cd__law_kinds ct__law_kinds oc__law_base kV__law_base dc__law_base pm__law_base cd__law_base ct__law_base oc__law_game kV__law_game dc__law_game pm__law_game cd__law_game ct__law_game oc__law_mark kV__law_mark dc__law_mark pm__law_mark cd__law_mark ct__law_mark oc__law_mark_at kV__law_mark_at dc__law_mark_at pm__law_mark_at cd__law_mark_at ct__law_mark_at oc__law_allowed kV__law_allowed dc__law_allowed pm__law_allowed cd__law_allowed ct__law_allowed oc__law_bad kV__law_bad dc__law_bad pm__law_bad cd__law_bad ct__law_bad oc__law_is_integer kV__law_is_integer dc__law_is_integer pm__law_is_integer cd__law_is_integer ct__law_is_integer oc__law_same kV__law_same dc__law_same pm__law_same cd__law_same ct__law_same oc__law_undo kV__law_undo dc__law_undo pm__law_undo cd__law_undo ct__law_undo oc__law_is_undone kV__law_is_undone dc__law_is_undone pm__law_is_undone cd__law_is_undone ct__law_is_undone oc_mark_of kV_mark_of dc_mark_of pm_mark_of cd_mark_of ct_mark_of oc__law_is_told kV__law_is_told dc__law_is_told pm__law_is_told cd__law_is_told ct__law_is_told oc__law_all_undone kV__law_all_undone dc__law_all_undone pm__law_all_undone cd__law_all_undone ct__law_all_undone oc__law_move kV__law_move dc__law_move pm__law_move cd__law_move ct__law_move oc__law_apart kV__law_apart dc__law_apart pm__law_apart cd__law_apart ct__law_apart oc_law kV_law dc_law pm_law cd_law ct_law oc_x1 dc_x1 pm_x1 ct_x1 ccl_x1 ccv_x1 oc_x5 dc_x5 pm_x5 ct_x5 ccl_x5 ccv_x5 oc_x6 dc_x6 pm_x6 ct_x6 ccl_x6 ccv_x6 oc_x7 dc_x7 pm_x7 ct_x7 ccl_x7 ccv_x7 oc_x38 dc_x38 pm_x38 ct_x38 ccl_x38 ccv_x38 : Value} {vs_x1 vs_x5 vs_x6 vs_x7 vs_x38 : Array Value} {tk_c49_MOST_0 tk_c49_TOP_KIND_1 : Tok} {rs_52_standing rs_52_taken rs_56_turn rs_56_standing : List Value} {nm_x1 qn_x1 : Str} {bs_x1 sub_x1 : List Value} {sn_x1 : List Str} {ab_x1 : Bool} {col_x1 : Option Bool} {dd_x1 : Option Addr} {m0_x1 m1_x1 m2_x1 m3_x1 m5_x1 : Option Value} {fl_x1 : Str} {tf_x1 : Tok} {nm_x5 qn_x5 : Str} {bs_x5 sub_x5 : List Value} {sn_x5 : List Str} {ab_x5 : Bool} {col_x5 : Option Bool} {dd_x5 : Option Addr} {m0_x5 m1_x5 m2_x5 m3_x5 m5_x5 : Option Value} {fl_x5 : Str} {tf_x5 : Tok} {nm_x6 qn_x6 : Str} {bs_x6 sub_x6 : List Value} {sn_x6 : List Str} {ab_x6 : Bool} {col_x6 : Option Bool} {dd_x6 : Option Addr} {m0_x6 m1_x6 m2_x6 m3_x6 m5_x6 : Option Value} {fl_x6 : Str} {tf_x6 : Tok} {nm_x7 qn_x7 : Str} {bs_x7 sub_x7 : List Value} {sn_x7 : List Str} {ab_x7 : Bool} {col_x7 : Option Bool} {dd_x7 : Option Addr} {m0_x7 m1_x7 m2_x7 m3_x7 m5_x7 : Option Value} {fl_x7 : Str} {tf_x7 : Tok} {nm_x38 qn_x38 : Str} {bs_x38 sub_x38 : List Value} {sn_x38 : List Str} {ab_x38 : Bool} {col_x38 : Option Bool} {dd_x38 : Option Addr} {m0_x38 m1_x38 m2_x38 m3_x38 m5_x38 : Option Value} {fl_x38 : Str} {tf_x38 : Tok}
    (X : K.In h) (G : h.Ns mainGlobals mg) (hfile : (P.main.scope.names.lookup ("super" : Str)).isSome = false) 
    (aC0 : PySem.W.nsIn K mainGlobals "MootError" = some (some (.ref C0)))
    (aC1 : PySem.W.nsIn K mainGlobals "BadStrand" = some (some (.ref C1)))
    (aC2 : PySem.W.nsIn K mainGlobals "BadKind" = some (some (.ref C2)))
    (aC5 : PySem.W.nsIn K mainGlobals "NoSuchBead" = some (some (.ref C5)))
    (aC6 : PySem.W.nsIn K mainGlobals "GoneBead" = some (some (.ref C6)))
    (aC7 : PySem.W.nsIn K mainGlobals "EndBead" = some (some (.ref C7)))
    (aC9 : PySem.W.nsIn K mainGlobals "RowFull" = some (some (.ref C9)))
    (aC10 : PySem.W.nsIn K mainGlobals "NothingToUndo" = some (some (.ref C10)))
    (aC38 : PySem.W.nsIn K mainGlobals "QuietMove" = some (some (.ref C38)))
    (aC49 : PySem.W.nsIn K mainGlobals "Strand" = some (some (.ref C49)))
    (aC52 : PySem.W.nsIn K mainGlobals "Row" = some (some (.ref C52)))
    (aC56 : PySem.W.nsIn K mainGlobals "Game" = some (some (.ref C56)))
    (pg49 : PySem.W.plainGet K C49 Str.empty = true)
    (hd49 : PySem.W.hasDictIn K C49 = true)
    (po49 : PySem.W.plainOver K C49 = true)
    (sa49 : PySem.W.findIn K (.ref C49) "__setattr__" = some (some (.builtin "object.__setattr__")))
    (mk49 : PySem.W.makesIn K C49 = true)
    (kp49 : PySem.W.keepIn K (.ref C49) = true)
    (na49_0 : PySem.W.findIn K (.ref C49) "kinds" = some none)
    (na49_1 : PySem.W.findIn K (.ref C49) "size" = some none)
    (na49_2 : PySem.W.findIn K (.ref C49) "unlike_pairs" = some none)
    (na49_3 : PySem.W.findIn K (.ref C49) "ends_unlike" = some none)
    (na49_4 : PySem.W.findIn K (.ref C49) "variety" = some none)
    (a_49_init : PySem.W.findIn K (.ref C49) "__init__" = some (some (.ref f_49_init)))
    (i_49_init : PySem.W.isFn K (.ref f_49_init) = true)
    (l_49_init : K.lookup f_49_init = some ⟨oc_49_init, od_49_init, .func (PySem.W.fnOf "__init__" "Strand.__init__" (defArgs s_Strand_init) (defBody s_Strand_init) (defScope s_Strand_init) .none kV_49_init dc_49_init pm_49_init an_49_init cd_49_init ct_49_init), sl_49_init⟩)
    (q_49_init : PySem.W.codeIn K cd_49_init "Strand.__init__" = true)
    (k_49_init : PySem.W.keepIn K (.ref f_49_init) = true)
    (pg52 : PySem.W.plainGet K C52 Str.empty = true)
    (hd52 : PySem.W.hasDictIn K C52 = true)
    (po52 : PySem.W.plainOver K C52 = true)
    (sa52 : PySem.W.findIn K (.ref C52) "__setattr__" = some (some (.builtin "object.__setattr__")))
    (mk52 : PySem.W.makesIn K C52 = true)
    (kp52 : PySem.W.keepIn K (.ref C52) = true)
    (na52_0 : PySem.W.findIn K (.ref C52) "_kinds" = some none)
    (na52_1 : PySem.W.findIn K (.ref C52) "_standing" = some none)
    (na52_2 : PySem.W.findIn K (.ref C52) "_taken" = some none)
    (na52_3 : PySem.W.findIn K (.ref C52) "_marks" = some none)
    (na52_4 : PySem.W.findIn K (.ref C52) "_meetings" = some none)
    (na52_5 : PySem.W.findIn K (.ref C52) "_deeds" = some none)
    (a_52_init : PySem.W.findIn K (.ref C52) "__init__" = some (some (.ref f_52_init)))
    (i_52_init : PySem.W.isFn K (.ref f_52_init) = true)
    (l_52_init : K.lookup f_52_init = some ⟨oc_52_init, od_52_init, .func (PySem.W.fnOf "__init__" "Row.__init__" (defArgs s_Row_init) (defBody s_Row_init) (defScope s_Row_init) .none kV_52_init dc_52_init pm_52_init an_52_init cd_52_init ct_52_init), sl_52_init⟩)
    (q_52_init : PySem.W.codeIn K cd_52_init "Row.__init__" = true)
    (k_52_init : PySem.W.keepIn K (.ref f_52_init) = true)
    (a_52_standing : PySem.W.findIn K (.ref C52) "standing" = some (some (.ref p_52_standing)))
    (g_52_standing : PySem.W.specialIn K (.ref p_52_standing) "__get__" = some (some (.builtin "property.__get__")))
    (t_52_standing : PySem.W.takesIn K (.ref p_52_standing) = some true)
    (r_52_standing : PySem.W.recIn K p_52_standing "property" = some (.ref f_52_standing :: rs_52_standing))
    (l_52_standing : K.lookup f_52_standing = some ⟨oc_52_standing, od_52_standing, .func (PySem.W.fnOf "standing" "Row.standing" (defArgs s_Row_standing) (defBody s_Row_standing) (defScope s_Row_standing) .none kV_52_standing dc_52_standing pm_52_standing an_52_standing cd_52_standing ct_52_standing), sl_52_standing⟩)
    (q_52_standing : PySem.W.codeIn K cd_52_standing "Row.standing" = true)
    (k_52_standing : PySem.W.keepIn K (.ref f_52_standing) = true)
    (a_52_taken : PySem.W.findIn K (.ref C52) "taken" = some (some (.ref p_52_taken)))
    (g_52_taken : PySem.W.specialIn K (.ref p_52_taken) "__get__" = some (some (.builtin "property.__get__")))
    (t_52_taken : PySem.W.takesIn K (.ref p_52_taken) = some true)
    (r_52_taken : PySem.W.recIn K p_52_taken "property" = some (.ref f_52_taken :: rs_52_taken))
    (l_52_taken : K.lookup f_52_taken = some ⟨oc_52_taken, od_52_taken, .func (PySem.W.fnOf "taken" "Row.taken" (defArgs s_Row_taken) (defBody s_Row_taken) (defScope s_Row_taken) .none kV_52_taken dc_52_taken pm_52_taken an_52_taken cd_52_taken ct_52_taken), sl_52_taken⟩)
    (q_52_taken : PySem.W.codeIn K cd_52_taken "Row.taken" = true)
    (k_52_taken : PySem.W.keepIn K (.ref f_52_taken) = true)
    (a_52_check_standing : PySem.W.findIn K (.ref C52) "_check_standing" = some (some (.ref f_52_check_standing)))
    (i_52_check_standing : PySem.W.isFn K (.ref f_52_check_standing) = true)
    (l_52_check_standing : K.lookup f_52_check_standing = some ⟨oc_52_check_standing, od_52_check_standing, .func (PySem.W.fnOf "_check_standing" "Row._check_standing" (defArgs s_Row_check_standing) (defBody s_Row_check_standing) (defScope s_Row_check_standing) .none kV_52_check_standing dc_52_check_standing pm_52_check_standing an_52_check_standing cd_52_check_standing ct_52_check_standing), sl_52_check_standing⟩)
    (q_52_check_standing : PySem.W.codeIn K cd_52_check_standing "Row._check_standing" = true)
    (k_52_check_standing : PySem.W.keepIn K (.ref f_52_check_standing) = true)
    (a_52_check_inner : PySem.W.findIn K (.ref C52) "_check_inner" = some (some (.ref f_52_check_inner)))
    (i_52_check_inner : PySem.W.isFn K (.ref f_52_check_inner) = true)
    (l_52_check_inner : K.lookup f_52_check_inner = some ⟨oc_52_check_inner, od_52_check_inner, .func (PySem.W.fnOf "_check_inner" "Row._check_inner" (defArgs s_Row_check_inner) (defBody s_Row_check_inner) (defScope s_Row_check_inner) .none kV_52_check_inner dc_52_check_inner pm_52_check_inner an_52_check_inner cd_52_check_inner ct_52_check_inner), sl_52_check_inner⟩)
    (q_52_check_inner : PySem.W.codeIn K cd_52_check_inner "Row._check_inner" = true)
    (k_52_check_inner : PySem.W.keepIn K (.ref f_52_check_inner) = true)
    (a_52_neighbours : PySem.W.findIn K (.ref C52) "neighbours" = some (some (.ref f_52_neighbours)))
    (i_52_neighbours : PySem.W.isFn K (.ref f_52_neighbours) = true)
    (l_52_neighbours : K.lookup f_52_neighbours = some ⟨oc_52_neighbours, od_52_neighbours, .func (PySem.W.fnOf "neighbours" "Row.neighbours" (defArgs s_Row_neighbours) (defBody s_Row_neighbours) (defScope s_Row_neighbours) .none kV_52_neighbours dc_52_neighbours pm_52_neighbours an_52_neighbours cd_52_neighbours ct_52_neighbours), sl_52_neighbours⟩)
    (q_52_neighbours : PySem.W.codeIn K cd_52_neighbours "Row.neighbours" = true)
    (k_52_neighbours : PySem.W.keepIn K (.ref f_52_neighbours) = true)
    (a_52_mark : PySem.W.findIn K (.ref C52) "mark" = some (some (.ref f_52_mark)))
    (i_52_mark : PySem.W.isFn K (.ref f_52_mark) = true)
    (l_52_mark : K.lookup f_52_mark = some ⟨oc_52_mark, od_52_mark, .func (PySem.W.fnOf "mark" "Row.mark" (defArgs s_Row_mark) (defBody s_Row_mark) (defScope s_Row_mark) .none kV_52_mark dc_52_mark pm_52_mark an_52_mark cd_52_mark ct_52_mark), sl_52_mark⟩)
    (q_52_mark : PySem.W.codeIn K cd_52_mark "Row.mark" = true)
    (k_52_mark : PySem.W.keepIn K (.ref f_52_mark) = true)
    (a_52_take_out : PySem.W.findIn K (.ref C52) "_take_out" = some (some (.ref f_52_take_out)))
    (i_52_take_out : PySem.W.isFn K (.ref f_52_take_out) = true)
    (l_52_take_out : K.lookup f_52_take_out = some ⟨oc_52_take_out, od_52_take_out, .func (PySem.W.fnOf "_take_out" "Row._take_out" (defArgs s_Row_take_out) (defBody s_Row_take_out) (defScope s_Row_take_out) .none kV_52_take_out dc_52_take_out pm_52_take_out an_52_take_out cd_52_take_out ct_52_take_out), sl_52_take_out⟩)
    (q_52_take_out : PySem.W.codeIn K cd_52_take_out "Row._take_out" = true)
    (k_52_take_out : PySem.W.keepIn K (.ref f_52_take_out) = true)
    (a_52_take : PySem.W.findIn K (.ref C52) "take" = some (some (.ref f_52_take)))
    (i_52_take : PySem.W.isFn K (.ref f_52_take) = true)
    (l_52_take : K.lookup f_52_take = some ⟨oc_52_take, od_52_take, .func (PySem.W.fnOf "take" "Row.take" (defArgs s_Row_take) (defBody s_Row_take) (defScope s_Row_take) .none kV_52_take dc_52_take pm_52_take an_52_take cd_52_take ct_52_take), sl_52_take⟩)
    (q_52_take : PySem.W.codeIn K cd_52_take "Row.take" = true)
    (k_52_take : PySem.W.keepIn K (.ref f_52_take) = true)
    (a_52_put_back : PySem.W.findIn K (.ref C52) "_put_back" = some (some (.ref f_52_put_back)))
    (i_52_put_back : PySem.W.isFn K (.ref f_52_put_back) = true)
    (l_52_put_back : K.lookup f_52_put_back = some ⟨oc_52_put_back, od_52_put_back, .func (PySem.W.fnOf "_put_back" "Row._put_back" (defArgs s_Row_put_back) (defBody s_Row_put_back) (defScope s_Row_put_back) .none kV_52_put_back dc_52_put_back pm_52_put_back an_52_put_back cd_52_put_back ct_52_put_back), sl_52_put_back⟩)
    (q_52_put_back : PySem.W.codeIn K cd_52_put_back "Row._put_back" = true)
    (k_52_put_back : PySem.W.keepIn K (.ref f_52_put_back) = true)
    (a_52_undo : PySem.W.findIn K (.ref C52) "undo" = some (some (.ref f_52_undo)))
    (i_52_undo : PySem.W.isFn K (.ref f_52_undo) = true)
    (l_52_undo : K.lookup f_52_undo = some ⟨oc_52_undo, od_52_undo, .func (PySem.W.fnOf "undo" "Row.undo" (defArgs s_Row_undo) (defBody s_Row_undo) (defScope s_Row_undo) .none kV_52_undo dc_52_undo pm_52_undo an_52_undo cd_52_undo ct_52_undo), sl_52_undo⟩)
    (q_52_undo : PySem.W.codeIn K cd_52_undo "Row.undo" = true)
    (k_52_undo : PySem.W.keepIn K (.ref f_52_undo) = true)
    (pg56 : PySem.W.plainGet K C56 Str.empty = true)
    (hd56 : PySem.W.hasDictIn K C56 = true)
    (po56 : PySem.W.plainOver K C56 = true)
    (sa56 : PySem.W.findIn K (.ref C56) "__setattr__" = some (some (.builtin "object.__setattr__")))
    (mk56 : PySem.W.makesIn K C56 = true)
    (kp56 : PySem.W.keepIn K (.ref C56) = true)
    (na56_0 : PySem.W.findIn K (.ref C56) "_row" = some none)
    (na56_1 : PySem.W.findIn K (.ref C56) "_stuck_loses" = some none)
    (a_56_init : PySem.W.findIn K (.ref C56) "__init__" = some (some (.ref f_56_init)))
    (i_56_init : PySem.W.isFn K (.ref f_56_init) = true)
    (l_56_init : K.lookup f_56_init = some ⟨oc_56_init, od_56_init, .func (PySem.W.fnOf "__init__" "Game.__init__" (defArgs s_Game_init) (defBody s_Game_init) (defScope s_Game_init) .none (.ref kd_56_init) dc_56_init pm_56_init an_56_init cd_56_init ct_56_init), sl_56_init⟩)
    (q_56_init : PySem.W.codeIn K cd_56_init "Game.__init__" = true)
    (k_56_init : PySem.W.keepIn K (.ref f_56_init) = true)
    (kn_56_init_stuck_loses : PySem.W.nsIn K kd_56_init "stuck_loses" = some (some (.bool true)))
    (a_56_turn : PySem.W.findIn K (.ref C56) "turn" = some (some (.ref p_56_turn)))
    (g_56_turn : PySem.W.specialIn K (.ref p_56_turn) "__get__" = some (some (.builtin "property.__get__")))
    (t_56_turn : PySem.W.takesIn K (.ref p_56_turn) = some true)
    (r_56_turn : PySem.W.recIn K p_56_turn "property" = some (.ref f_56_turn :: rs_56_turn))
    (l_56_turn : K.lookup f_56_turn = some ⟨oc_56_turn, od_56_turn, .func (PySem.W.fnOf "turn" "Game.turn" (defArgs s_Game_turn) (defBody s_Game_turn) (defScope s_Game_turn) .none kV_56_turn dc_56_turn pm_56_turn an_56_turn cd_56_turn ct_56_turn), sl_56_turn⟩)
    (q_56_turn : PySem.W.codeIn K cd_56_turn "Game.turn" = true)
    (k_56_turn : PySem.W.keepIn K (.ref f_56_turn) = true)
    (a_56_standing : PySem.W.findIn K (.ref C56) "standing" = some (some (.ref p_56_standing)))
    (g_56_standing : PySem.W.specialIn K (.ref p_56_standing) "__get__" = some (some (.builtin "property.__get__")))
    (t_56_standing : PySem.W.takesIn K (.ref p_56_standing) = some true)
    (r_56_standing : PySem.W.recIn K p_56_standing "property" = some (.ref f_56_standing :: rs_56_standing))
    (l_56_standing : K.lookup f_56_standing = some ⟨oc_56_standing, od_56_standing, .func (PySem.W.fnOf "standing" "Game.standing" (defArgs s_Game_standing) (defBody s_Game_standing) (defScope s_Game_standing) .none kV_56_standing dc_56_standing pm_56_standing an_56_standing cd_56_standing ct_56_standing), sl_56_standing⟩)
    (q_56_standing : PySem.W.codeIn K cd_56_standing "Game.standing" = true)
    (k_56_standing : PySem.W.keepIn K (.ref f_56_standing) = true)
    (a_56_moves : PySem.W.findIn K (.ref C56) "moves" = some (some (.ref f_56_moves)))
    (i_56_moves : PySem.W.isFn K (.ref f_56_moves) = true)
    (l_56_moves : K.lookup f_56_moves = some ⟨oc_56_moves, od_56_moves, .func (PySem.W.fnOf "moves" "Game.moves" (defArgs s_Game_moves) (defBody s_Game_moves) (defScope s_Game_moves) .none kV_56_moves dc_56_moves pm_56_moves an_56_moves cd_56_moves ct_56_moves), sl_56_moves⟩)
    (q_56_moves : PySem.W.codeIn K cd_56_moves "Game.moves" = true)
    (k_56_moves : PySem.W.keepIn K (.ref f_56_moves) = true)
    (a_56_is_over : PySem.W.findIn K (.ref C56) "is_over" = some (some (.ref f_56_is_over)))
    (i_56_is_over : PySem.W.isFn K (.ref f_56_is_over) = true)
    (l_56_is_over : K.lookup f_56_is_over = some ⟨oc_56_is_over, od_56_is_over, .func (PySem.W.fnOf "is_over" "Game.is_over" (defArgs s_Game_is_over) (defBody s_Game_is_over) (defScope s_Game_is_over) .none kV_56_is_over dc_56_is_over pm_56_is_over an_56_is_over cd_56_is_over ct_56_is_over), sl_56_is_over⟩)
    (q_56_is_over : PySem.W.codeIn K cd_56_is_over "Game.is_over" = true)
    (k_56_is_over : PySem.W.keepIn K (.ref f_56_is_over) = true)
    (a_56_move : PySem.W.findIn K (.ref C56) "move" = some (some (.ref f_56_move)))
    (i_56_move : PySem.W.isFn K (.ref f_56_move) = true)
    (l_56_move : K.lookup f_56_move = some ⟨oc_56_move, od_56_move, .func (PySem.W.fnOf "move" "Game.move" (defArgs s_Game_move) (defBody s_Game_move) (defScope s_Game_move) .none kV_56_move dc_56_move pm_56_move an_56_move cd_56_move ct_56_move), sl_56_move⟩)
    (q_56_move : PySem.W.codeIn K cd_56_move "Game.move" = true)
    (k_56_move : PySem.W.keepIn K (.ref f_56_move) = true)
    (a_56_undo : PySem.W.findIn K (.ref C56) "undo" = some (some (.ref f_56_undo)))
    (i_56_undo : PySem.W.isFn K (.ref f_56_undo) = true)
    (l_56_undo : K.lookup f_56_undo = some ⟨oc_56_undo, od_56_undo, .func (PySem.W.fnOf "undo" "Game.undo" (defArgs s_Game_undo) (defBody s_Game_undo) (defScope s_Game_undo) .none kV_56_undo dc_56_undo pm_56_undo an_56_undo cd_56_undo ct_56_undo), sl_56_undo⟩)
    (q_56_undo : PySem.W.codeIn K cd_56_undo "Game.undo" = true)
    (k_56_undo : PySem.W.keepIn K (.ref f_56_undo) = true)
    (a__law_mixed : PySem.W.nsIn K mainGlobals "_law_mixed" = some (some (.ref f__law_mixed)))
    (l__law_mixed : K.lookup f__law_mixed = some ⟨oc__law_mixed, od__law_mixed, .func (PySem.W.fnOf "_law_mixed" "_law_mixed" (defArgs s__law_mixed) (defBody s__law_mixed) (defScope s__law_mixed) .none kV__law_mixed dc__law_mixed pm__law_mixed an__law_mixed cd__law_mixed ct__law_mixed), sl__law_mixed⟩)
    (q__law_mixed : PySem.W.codeIn K cd__law_mixed "_law_mixed" = true)
    (k__law_mixed : PySem.W.keepIn K (.ref f__law_mixed) = true)
    (a__law_draws : PySem.W.nsIn K mainGlobals "_law_draws" = some (some (.ref f__law_draws)))
    (l__law_draws : K.lookup f__law_draws = some ⟨oc__law_draws, od__law_draws, .func (PySem.W.fnOf "_law_draws" "_law_draws" (defArgs s__law_draws) (defBody s__law_draws) (defScope s__law_draws) .none kV__law_draws dc__law_draws pm__law_draws an__law_draws cd__law_draws ct__law_draws), sl__law_draws⟩)
    (q__law_draws : PySem.W.codeIn K cd__law_draws "_law_draws" = true)
    (k__law_draws : PySem.W.keepIn K (.ref f__law_draws) = true)
    (a__law_cell : PySem.W.nsIn K mainGlobals "_law_cell" = some (some (.ref f__law_cell)))
    (l__law_cell : K.lookup f__law_cell = some ⟨oc__law_cell, od__law_cell, .func (PySem.W.fnOf "_law_cell" "_law_cell" (defArgs s__law_cell) (defBody s__law_cell) (defScope s__law_cell) .none kV__law_cell dc__law_cell pm__law_cell an__law_cell cd__law_cell ct__law_cell), sl__law_cell⟩)
    (q__law_cell : PySem.W.codeIn K cd__law_cell "_law_cell" = true)
    (k__law_cell : PySem.W.keepIn K (.ref f__law_cell) = true)
    (a__law_kinds : PySem.W.nsIn K mainGlobals "_law_kinds" = some (some (.ref f__law_kinds)))
    (l__law_kinds : K.lookup f__law_kinds = some ⟨oc__law_kinds, od__law_kinds, .func (PySem.W.fnOf "_law_kinds" "_law_kinds" (defArgs s__law_kinds) (defBody s__law_kinds) (defScope s__law_kinds) .none kV__law_kinds dc__law_kinds pm__law_kinds an__law_kinds cd__law_kinds ct__law_kinds), sl__law_kinds⟩)
    (q__law_kinds : PySem.W.codeIn K cd__law_kinds "_law_kinds" = true)
    (k__law_kinds : PySem.W.keepIn K (.ref f__law_kinds) = true)
    (a__law_base : PySem.W.nsIn K mainGlobals "_law_base" = some (some (.ref f__law_base)))
    (l__law_base : K.lookup f__law_base = some ⟨oc__law_base, od__law_base, .func (PySem.W.fnOf "_law_base" "_law_base" (defArgs s__law_base) (defBody s__law_base) (defScope s__law_base) .none kV__law_base dc__law_base pm__law_base an__law_base cd__law_base ct__law_base), sl__law_base⟩)
    (q__law_base : PySem.W.codeIn K cd__law_base "_law_base" = true)
    (k__law_base : PySem.W.keepIn K (.ref f__law_base) = true)
    (a__law_game : PySem.W.nsIn K mainGlobals "_law_game" = some (some (.ref f__law_game)))
    (l__law_game : K.lookup f__law_game = some ⟨oc__law_game, od__law_game, .func (PySem.W.fnOf "_law_game" "_law_game" (defArgs s__law_game) (defBody s__law_game) (defScope s__law_game) .none kV__law_game dc__law_game pm__law_game an__law_game cd__law_game ct__law_game), sl__law_game⟩)
    (q__law_game : PySem.W.codeIn K cd__law_game "_law_game" = true)
    (k__law_game : PySem.W.keepIn K (.ref f__law_game) = true)
    (a__law_mark : PySem.W.nsIn K mainGlobals "_law_mark" = some (some (.ref f__law_mark)))
    (l__law_mark : K.lookup f__law_mark = some ⟨oc__law_mark, od__law_mark, .func (PySem.W.fnOf "_law_mark" "_law_mark" (defArgs s__law_mark) (defBody s__law_mark) (defScope s__law_mark) .none kV__law_mark dc__law_mark pm__law_mark an__law_mark cd__law_mark ct__law_mark), sl__law_mark⟩)
    (q__law_mark : PySem.W.codeIn K cd__law_mark "_law_mark" = true)
    (k__law_mark : PySem.W.keepIn K (.ref f__law_mark) = true)
    (a__law_mark_at : PySem.W.nsIn K mainGlobals "_law_mark_at" = some (some (.ref f__law_mark_at)))
    (l__law_mark_at : K.lookup f__law_mark_at = some ⟨oc__law_mark_at, od__law_mark_at, .func (PySem.W.fnOf "_law_mark_at" "_law_mark_at" (defArgs s__law_mark_at) (defBody s__law_mark_at) (defScope s__law_mark_at) .none kV__law_mark_at dc__law_mark_at pm__law_mark_at an__law_mark_at cd__law_mark_at ct__law_mark_at), sl__law_mark_at⟩)
    (q__law_mark_at : PySem.W.codeIn K cd__law_mark_at "_law_mark_at" = true)
    (k__law_mark_at : PySem.W.keepIn K (.ref f__law_mark_at) = true)
    (a__law_allowed : PySem.W.nsIn K mainGlobals "_law_allowed" = some (some (.ref f__law_allowed)))
    (l__law_allowed : K.lookup f__law_allowed = some ⟨oc__law_allowed, od__law_allowed, .func (PySem.W.fnOf "_law_allowed" "_law_allowed" (defArgs s__law_allowed) (defBody s__law_allowed) (defScope s__law_allowed) .none kV__law_allowed dc__law_allowed pm__law_allowed an__law_allowed cd__law_allowed ct__law_allowed), sl__law_allowed⟩)
    (q__law_allowed : PySem.W.codeIn K cd__law_allowed "_law_allowed" = true)
    (k__law_allowed : PySem.W.keepIn K (.ref f__law_allowed) = true)
    (a__law_bad : PySem.W.nsIn K mainGlobals "_law_bad" = some (some (.ref f__law_bad)))
    (l__law_bad : K.lookup f__law_bad = some ⟨oc__law_bad, od__law_bad, .func (PySem.W.fnOf "_law_bad" "_law_bad" (defArgs s__law_bad) (defBody s__law_bad) (defScope s__law_bad) .none kV__law_bad dc__law_bad pm__law_bad an__law_bad cd__law_bad ct__law_bad), sl__law_bad⟩)
    (q__law_bad : PySem.W.codeIn K cd__law_bad "_law_bad" = true)
    (k__law_bad : PySem.W.keepIn K (.ref f__law_bad) = true)
    (a__law_is_integer : PySem.W.nsIn K mainGlobals "_law_is_integer" = some (some (.ref f__law_is_integer)))
    (l__law_is_integer : K.lookup f__law_is_integer = some ⟨oc__law_is_integer, od__law_is_integer, .func (PySem.W.fnOf "_law_is_integer" "_law_is_integer" (defArgs s__law_is_integer) (defBody s__law_is_integer) (defScope s__law_is_integer) .none kV__law_is_integer dc__law_is_integer pm__law_is_integer an__law_is_integer cd__law_is_integer ct__law_is_integer), sl__law_is_integer⟩)
    (q__law_is_integer : PySem.W.codeIn K cd__law_is_integer "_law_is_integer" = true)
    (k__law_is_integer : PySem.W.keepIn K (.ref f__law_is_integer) = true)
    (a__law_same : PySem.W.nsIn K mainGlobals "_law_same" = some (some (.ref f__law_same)))
    (l__law_same : K.lookup f__law_same = some ⟨oc__law_same, od__law_same, .func (PySem.W.fnOf "_law_same" "_law_same" (defArgs s__law_same) (defBody s__law_same) (defScope s__law_same) .none kV__law_same dc__law_same pm__law_same an__law_same cd__law_same ct__law_same), sl__law_same⟩)
    (q__law_same : PySem.W.codeIn K cd__law_same "_law_same" = true)
    (k__law_same : PySem.W.keepIn K (.ref f__law_same) = true)
    (a__law_undo : PySem.W.nsIn K mainGlobals "_law_undo" = some (some (.ref f__law_undo)))
    (l__law_undo : K.lookup f__law_undo = some ⟨oc__law_undo, od__law_undo, .func (PySem.W.fnOf "_law_undo" "_law_undo" (defArgs s__law_undo) (defBody s__law_undo) (defScope s__law_undo) .none kV__law_undo dc__law_undo pm__law_undo an__law_undo cd__law_undo ct__law_undo), sl__law_undo⟩)
    (q__law_undo : PySem.W.codeIn K cd__law_undo "_law_undo" = true)
    (k__law_undo : PySem.W.keepIn K (.ref f__law_undo) = true)
    (a__law_is_undone : PySem.W.nsIn K mainGlobals "_law_is_undone" = some (some (.ref f__law_is_undone)))
    (l__law_is_undone : K.lookup f__law_is_undone = some ⟨oc__law_is_undone, od__law_is_undone, .func (PySem.W.fnOf "_law_is_undone" "_law_is_undone" (defArgs s__law_is_undone) (defBody s__law_is_undone) (defScope s__law_is_undone) .none kV__law_is_undone dc__law_is_undone pm__law_is_undone an__law_is_undone cd__law_is_undone ct__law_is_undone), sl__law_is_undone⟩)
    (q__law_is_undone : PySem.W.codeIn K cd__law_is_undone "_law_is_undone" = true)
    (k__law_is_undone : PySem.W.keepIn K (.ref f__law_is_undone) = true)
    (a_mark_of : PySem.W.nsIn K mainGlobals "mark_of" = some (some (.ref f_mark_of)))
    (l_mark_of : K.lookup f_mark_of = some ⟨oc_mark_of, od_mark_of, .func (PySem.W.fnOf "mark_of" "mark_of" (defArgs s_mark_of) (defBody s_mark_of) (defScope s_mark_of) .none kV_mark_of dc_mark_of pm_mark_of an_mark_of cd_mark_of ct_mark_of), sl_mark_of⟩)
    (q_mark_of : PySem.W.codeIn K cd_mark_of "mark_of" = true)
    (k_mark_of : PySem.W.keepIn K (.ref f_mark_of) = true)
    (a__law_is_told : PySem.W.nsIn K mainGlobals "_law_is_told" = some (some (.ref f__law_is_told)))
    (l__law_is_told : K.lookup f__law_is_told = some ⟨oc__law_is_told, od__law_is_told, .func (PySem.W.fnOf "_law_is_told" "_law_is_told" (defArgs s__law_is_told) (defBody s__law_is_told) (defScope s__law_is_told) .none kV__law_is_told dc__law_is_told pm__law_is_told an__law_is_told cd__law_is_told ct__law_is_told), sl__law_is_told⟩)
    (q__law_is_told : PySem.W.codeIn K cd__law_is_told "_law_is_told" = true)
    (k__law_is_told : PySem.W.keepIn K (.ref f__law_is_told) = true)
    (a__law_all_undone : PySem.W.nsIn K mainGlobals "_law_all_undone" = some (some (.ref f__law_all_undone)))
    (l__law_all_undone : K.lookup f__law_all_undone = some ⟨oc__law_all_undone, od__law_all_undone, .func (PySem.W.fnOf "_law_all_undone" "_law_all_undone" (defArgs s__law_all_undone) (defBody s__law_all_undone) (defScope s__law_all_undone) .none kV__law_all_undone dc__law_all_undone pm__law_all_undone an__law_all_undone cd__law_all_undone ct__law_all_undone), sl__law_all_undone⟩)
    (q__law_all_undone : PySem.W.codeIn K cd__law_all_undone "_law_all_undone" = true)
    (k__law_all_undone : PySem.W.keepIn K (.ref f__law_all_undone) = true)
    (a__law_move : PySem.W.nsIn K mainGlobals "_law_move" = some (some (.ref f__law_move)))
    (l__law_move : K.lookup f__law_move = some ⟨oc__law_move, od__law_move, .func (PySem.W.fnOf "_law_move" "_law_move" (defArgs s__law_move) (defBody s__law_move) (defScope s__law_move) .none kV__law_move dc__law_move pm__law_move an__law_move cd__law_move ct__law_move), sl__law_move⟩)
    (q__law_move : PySem.W.codeIn K cd__law_move "_law_move" = true)
    (k__law_move : PySem.W.keepIn K (.ref f__law_move) = true)
    (a__law_apart : PySem.W.nsIn K mainGlobals "_law_apart" = some (some (.ref f__law_apart)))
    (l__law_apart : K.lookup f__law_apart = some ⟨oc__law_apart, od__law_apart, .func (PySem.W.fnOf "_law_apart" "_law_apart" (defArgs s__law_apart) (defBody s__law_apart) (defScope s__law_apart) .none kV__law_apart dc__law_apart pm__law_apart an__law_apart cd__law_apart ct__law_apart), sl__law_apart⟩)
    (q__law_apart : PySem.W.codeIn K cd__law_apart "_law_apart" = true)
    (k__law_apart : PySem.W.keepIn K (.ref f__law_apart) = true)
    (a_law : PySem.W.nsIn K mainGlobals "law" = some (some (.ref f_law)))
    (l_law : K.lookup f_law = some ⟨oc_law, od_law, .func (PySem.W.fnOf "law" "law" (defArgs s_law) (defBody s_law) (defScope s_law) .none kV_law dc_law pm_law an_law cd_law ct_law), sl_law⟩)
    (q_law : PySem.W.codeIn K cd_law "law" = true)
    (k_law : PySem.W.keepIn K (.ref f_law) = true)
    (z_ValueError : PySem.W.nsIn K mainGlobals "ValueError" = some none)
    (z_bool : PySem.W.nsIn K mainGlobals "bool" = some none)
    (z_int : PySem.W.nsIn K mainGlobals "int" = some none)
    (z_isinstance : PySem.W.nsIn K mainGlobals "isinstance" = some none)
    (z_len : PySem.W.nsIn K mainGlobals "len" = some none)
    (z_list : PySem.W.nsIn K mainGlobals "list" = some none)
    (z_range : PySem.W.nsIn K mainGlobals "range" = some none)
    (z_set : PySem.W.nsIn K mainGlobals "set" = some none)
    (z_sorted : PySem.W.nsIn K mainGlobals "sorted" = some none)
    (z_str : PySem.W.nsIn K mainGlobals "str" = some none)
    (z_tuple : PySem.W.nsIn K mainGlobals "tuple" = some none)
    (rd49 : PySem.W.readsIn K C49 (.type "type") = true)
    (gc49 : PySem.W.specialIn K (.ref C49) "__getattribute__" = some (some (.builtin "type.__getattribute__")))
    (cv49_MOST : PySem.W.findCls K (.ref C49) (.type "type") "MOST" = some (.val (.int 24 tk_c49_MOST_0)))
    (cv49_TOP_KIND : PySem.W.findCls K (.ref C49) (.type "type") "TOP_KIND" = some (.val (.int 999 tk_c49_TOP_KIND_1)))
    (opq : PySem.W.nsIn K PySem.cStatics "thirdparty.any" = some none)
    (zsuper : PySem.W.nsIn K mainGlobals "super" = some none)
    (cgn : PySem.W.specialIn K (.builtin "object.__class__") "__get__" = some (some (.builtin "getset_descriptor.__get__")))
    (cgt : PySem.W.takesIn K (.builtin "object.__class__") = some true)
    (rx0 : PySem.W.subIn K (.ref C0) (.type "BaseException") = some true)
    (ty0 : PySem.W.typeIn K (.ref C0) = some (.type "type"))
    (xd0 : PySem.W.hasDictIn K C0 = true)
    (ga0 : PySem.W.findIn K (.ref C0) "__getattribute__" = some (some (.builtin "BaseException.__getattribute__")))
    (gg0 : PySem.W.findIn K (.ref C0) "__getattr__" = some none)
    (xc0 : PySem.W.findIn K (.ref C0) "__class__" = some (some (.builtin "object.__class__")))
    (xm0 : PySem.W.mroIn K C0 (.type "object") = some true)
    (rx1 : PySem.W.subIn K (.ref C1) (.type "BaseException") = some true)
    (ty1 : PySem.W.typeIn K (.ref C1) = some (.type "type"))
    (xd1 : PySem.W.hasDictIn K C1 = true)
    (kx1 : PySem.W.keepIn K (.ref C1) = true)
    (xL_x1 : K.lookup C1 = some (excClassObj nm_x1 qn_x1 C1 N_x1 bs_x1 [.ref C0, .type "ValueError", .type "Exception", .type "BaseException", .type "object"] true sn_x1 sub_x1 ab_x1 col_x1 dd_x1 m0_x1 m1_x1 m2_x1 m3_x1 m5_x1 "ValueError.__new__"))
    (al_x1 : PySem.W.alongIn K "__init__" [.ref C0, .type "ValueError", .type "Exception", .type "BaseException", .type "object"] = some (some (.builtin "ValueError.__init__")))
    (sx_x1 : PySem.W.findIn K (.ref C1) "__setattr__" = some (some (.builtin "object.__setattr__")))
    (mv_x1 : PySem.W.mroIn K C1 (.type "ValueError") = some true)
    (mc_x1 : PySem.W.mroIn K C1 (.ref C1) = some true)
    (nb_x1_at : PySem.W.findIn K (.ref C1) "at" = some none)
    (a_x1 : PySem.W.findIn K (.ref C1) "__init__" = some (some (.ref f_x1)))
    (t_x1 : PySem.W.typeIn K (.ref f_x1) = some (.type "function"))
    (l_x1 : K.lookup f_x1 = some ⟨oc_x1, od_x1, .func (PySem.W.ksFn "__init__" "BadStrand.__init__" (PySem.EsX.arg0 [("at", ⟨9, 23, 9, 25⟩)] ⟨9, 17, 9, 21⟩) [PySem.EsX.sup "not a strand" 0 ⟨⟨10, 8, 10, 13⟩, ⟨10, 8, 10, 15⟩, ⟨10, 8, 10, 24⟩, ⟨10, 25, 10, 39⟩, ⟨10, 8, 10, 40⟩, ⟨10, 8, 10, 40⟩⟩ ⟨⟨10, 8, 10, 13⟩, ⟨10, 8, 10, 15⟩, ⟨10, 8, 10, 24⟩, ⟨10, 25, 10, 39⟩, ⟨10, 8, 10, 40⟩, ⟨10, 8, 10, 40⟩⟩, PySem.EsX.asg "at" ⟨⟨11, 8, 11, 12⟩, ⟨11, 8, 11, 15⟩, ⟨11, 18, 11, 20⟩, ⟨11, 8, 11, 20⟩, ⟨11, 8, 11, 20⟩, ⟨11, 8, 11, 20⟩⟩] (PySem.EsX.scp ["at"]) .none .none dc_x1 pm_x1 an_x1 (.ref cda_x1) ct_x1 cc_x1), sl_x1⟩)
    (q_x1 : PySem.W.codeIn K (.ref cda_x1) "BadStrand.__init__" = true)
    (u_x1 : K.lookup cda_x1 = some ⟨ccl_x1, cdd_x1, .fields vs_x1, ccs_x1⟩)
    (w_x1 : vs_x1[2]? = some (.str fl_x1 tf_x1))
    (y_x1 : ((P.main.file : Str) == fl_x1) = true)
    (cl_x1 : K.lookup cc_x1 = some ⟨ccv_x1, cld_x1, .cell (some (.ref C1)), csl_x1⟩)
    (ga1 : PySem.W.findIn K (.ref C1) "__getattribute__" = some (some (.builtin "BaseException.__getattribute__")))
    (gg1 : PySem.W.findIn K (.ref C1) "__getattr__" = some none)
    (xc1 : PySem.W.findIn K (.ref C1) "__class__" = some (some (.builtin "object.__class__")))
    (xm1 : PySem.W.mroIn K C1 (.type "object") = some true)
    (rx2 : PySem.W.subIn K (.ref C2) (.type "BaseException") = some true)
    (ty2 : PySem.W.typeIn K (.ref C2) = some (.type "type"))
    (xd2 : PySem.W.hasDictIn K C2 = true)
    (ga2 : PySem.W.findIn K (.ref C2) "__getattribute__" = some (some (.builtin "BaseException.__getattribute__")))
    (gg2 : PySem.W.findIn K (.ref C2) "__getattr__" = some none)
    (xc2 : PySem.W.findIn K (.ref C2) "__class__" = some (some (.builtin "object.__class__")))
    (xm2 : PySem.W.mroIn K C2 (.type "object") = some true)
    (rx5 : PySem.W.subIn K (.ref C5) (.type "BaseException") = some true)
    (ty5 : PySem.W.typeIn K (.ref C5) = some (.type "type"))
    (xd5 : PySem.W.hasDictIn K C5 = true)
    (kx5 : PySem.W.keepIn K (.ref C5) = true)
    (xL_x5 : K.lookup C5 = some (excClassObj nm_x5 qn_x5 C5 N_x5 bs_x5 [.ref C0, .type "ValueError", .type "Exception", .type "BaseException", .type "object"] true sn_x5 sub_x5 ab_x5 col_x5 dd_x5 m0_x5 m1_x5 m2_x5 m3_x5 m5_x5 "ValueError.__new__"))
    (al_x5 : PySem.W.alongIn K "__init__" [.ref C0, .type "ValueError", .type "Exception", .type "BaseException", .type "object"] = some (some (.builtin "ValueError.__init__")))
    (sx_x5 : PySem.W.findIn K (.ref C5) "__setattr__" = some (some (.builtin "object.__setattr__")))
    (mv_x5 : PySem.W.mroIn K C5 (.type "ValueError") = some true)
    (mc_x5 : PySem.W.mroIn K C5 (.ref C5) = some true)
    (nb_x5_bead : PySem.W.findIn K (.ref C5) "bead" = some none)
    (a_x5 : PySem.W.findIn K (.ref C5) "__init__" = some (some (.ref f_x5)))
    (t_x5 : PySem.W.typeIn K (.ref f_x5) = some (.type "function"))
    (l_x5 : K.lookup f_x5 = some ⟨oc_x5, od_x5, .func (PySem.W.ksFn "__init__" "NoSuchBead.__init__" (PySem.EsX.arg0 [("bead", ⟨19, 23, 19, 27⟩)] ⟨19, 17, 19, 21⟩) [PySem.EsX.sup "no such bead" 0 ⟨⟨20, 8, 20, 13⟩, ⟨20, 8, 20, 15⟩, ⟨20, 8, 20, 24⟩, ⟨20, 25, 20, 39⟩, ⟨20, 8, 20, 40⟩, ⟨20, 8, 20, 40⟩⟩ ⟨⟨20, 8, 20, 13⟩, ⟨20, 8, 20, 15⟩, ⟨20, 8, 20, 24⟩, ⟨20, 25, 20, 39⟩, ⟨20, 8, 20, 40⟩, ⟨20, 8, 20, 40⟩⟩, PySem.EsX.asg "bead" ⟨⟨21, 8, 21, 12⟩, ⟨21, 8, 21, 17⟩, ⟨21, 20, 21, 24⟩, ⟨21, 8, 21, 24⟩, ⟨21, 8, 21, 24⟩, ⟨21, 8, 21, 24⟩⟩] (PySem.EsX.scp ["bead"]) .none .none dc_x5 pm_x5 an_x5 (.ref cda_x5) ct_x5 cc_x5), sl_x5⟩)
    (q_x5 : PySem.W.codeIn K (.ref cda_x5) "NoSuchBead.__init__" = true)
    (u_x5 : K.lookup cda_x5 = some ⟨ccl_x5, cdd_x5, .fields vs_x5, ccs_x5⟩)
    (w_x5 : vs_x5[2]? = some (.str fl_x5 tf_x5))
    (y_x5 : ((P.main.file : Str) == fl_x5) = true)
    (cl_x5 : K.lookup cc_x5 = some ⟨ccv_x5, cld_x5, .cell (some (.ref C5)), csl_x5⟩)
    (ga5 : PySem.W.findIn K (.ref C5) "__getattribute__" = some (some (.builtin "BaseException.__getattribute__")))
    (gg5 : PySem.W.findIn K (.ref C5) "__getattr__" = some none)
    (xc5 : PySem.W.findIn K (.ref C5) "__class__" = some (some (.builtin "object.__class__")))
    (xm5 : PySem.W.mroIn K C5 (.type "object") = some true)
    (nf5_bead : PySem.W.findIn K (.ref C5) "bead" = some none)
    (rx6 : PySem.W.subIn K (.ref C6) (.type "BaseException") = some true)
    (ty6 : PySem.W.typeIn K (.ref C6) = some (.type "type"))
    (xd6 : PySem.W.hasDictIn K C6 = true)
    (kx6 : PySem.W.keepIn K (.ref C6) = true)
    (xL_x6 : K.lookup C6 = some (excClassObj nm_x6 qn_x6 C6 N_x6 bs_x6 [.ref C0, .type "ValueError", .type "Exception", .type "BaseException", .type "object"] true sn_x6 sub_x6 ab_x6 col_x6 dd_x6 m0_x6 m1_x6 m2_x6 m3_x6 m5_x6 "ValueError.__new__"))
    (al_x6 : PySem.W.alongIn K "__init__" [.ref C0, .type "ValueError", .type "Exception", .type "BaseException", .type "object"] = some (some (.builtin "ValueError.__init__")))
    (sx_x6 : PySem.W.findIn K (.ref C6) "__setattr__" = some (some (.builtin "object.__setattr__")))
    (mv_x6 : PySem.W.mroIn K C6 (.type "ValueError") = some true)
    (mc_x6 : PySem.W.mroIn K C6 (.ref C6) = some true)
    (nb_x6_bead : PySem.W.findIn K (.ref C6) "bead" = some none)
    (a_x6 : PySem.W.findIn K (.ref C6) "__init__" = some (some (.ref f_x6)))
    (t_x6 : PySem.W.typeIn K (.ref f_x6) = some (.type "function"))
    (l_x6 : K.lookup f_x6 = some ⟨oc_x6, od_x6, .func (PySem.W.ksFn "__init__" "GoneBead.__init__" (PySem.EsX.arg0 [("bead", ⟨24, 23, 24, 27⟩)] ⟨24, 17, 24, 21⟩) [PySem.EsX.sup "bead is gone" 0 ⟨⟨25, 8, 25, 13⟩, ⟨25, 8, 25, 15⟩, ⟨25, 8, 25, 24⟩, ⟨25, 25, 25, 39⟩, ⟨25, 8, 25, 40⟩, ⟨25, 8, 25, 40⟩⟩ ⟨⟨25, 8, 25, 13⟩, ⟨25, 8, 25, 15⟩, ⟨25, 8, 25, 24⟩, ⟨25, 25, 25, 39⟩, ⟨25, 8, 25, 40⟩, ⟨25, 8, 25, 40⟩⟩, PySem.EsX.asg "bead" ⟨⟨26, 8, 26, 12⟩, ⟨26, 8, 26, 17⟩, ⟨26, 20, 26, 24⟩, ⟨26, 8, 26, 24⟩, ⟨26, 8, 26, 24⟩, ⟨26, 8, 26, 24⟩⟩] (PySem.EsX.scp ["bead"]) .none .none dc_x6 pm_x6 an_x6 (.ref cda_x6) ct_x6 cc_x6), sl_x6⟩)
    (q_x6 : PySem.W.codeIn K (.ref cda_x6) "GoneBead.__init__" = true)
    (u_x6 : K.lookup cda_x6 = some ⟨ccl_x6, cdd_x6, .fields vs_x6, ccs_x6⟩)
    (w_x6 : vs_x6[2]? = some (.str fl_x6 tf_x6))
    (y_x6 : ((P.main.file : Str) == fl_x6) = true)
    (cl_x6 : K.lookup cc_x6 = some ⟨ccv_x6, cld_x6, .cell (some (.ref C6)), csl_x6⟩)
    (ga6 : PySem.W.findIn K (.ref C6) "__getattribute__" = some (some (.builtin "BaseException.__getattribute__")))
    (gg6 : PySem.W.findIn K (.ref C6) "__getattr__" = some none)
    (xc6 : PySem.W.findIn K (.ref C6) "__class__" = some (some (.builtin "object.__class__")))
    (xm6 : PySem.W.mroIn K C6 (.type "object") = some true)
    (nf6_bead : PySem.W.findIn K (.ref C6) "bead" = some none)
    (rx7 : PySem.W.subIn K (.ref C7) (.type "BaseException") = some true)
    (ty7 : PySem.W.typeIn K (.ref C7) = some (.type "type"))
    (xd7 : PySem.W.hasDictIn K C7 = true)
    (kx7 : PySem.W.keepIn K (.ref C7) = true)
    (xL_x7 : K.lookup C7 = some (excClassObj nm_x7 qn_x7 C7 N_x7 bs_x7 [.ref C0, .type "ValueError", .type "Exception", .type "BaseException", .type "object"] true sn_x7 sub_x7 ab_x7 col_x7 dd_x7 m0_x7 m1_x7 m2_x7 m3_x7 m5_x7 "ValueError.__new__"))
    (al_x7 : PySem.W.alongIn K "__init__" [.ref C0, .type "ValueError", .type "Exception", .type "BaseException", .type "object"] = some (some (.builtin "ValueError.__init__")))
    (sx_x7 : PySem.W.findIn K (.ref C7) "__setattr__" = some (some (.builtin "object.__setattr__")))
    (mv_x7 : PySem.W.mroIn K C7 (.type "ValueError") = some true)
    (mc_x7 : PySem.W.mroIn K C7 (.ref C7) = some true)
    (nb_x7_bead : PySem.W.findIn K (.ref C7) "bead" = some none)
    (a_x7 : PySem.W.findIn K (.ref C7) "__init__" = some (some (.ref f_x7)))
    (t_x7 : PySem.W.typeIn K (.ref f_x7) = some (.type "function"))
    (l_x7 : K.lookup f_x7 = some ⟨oc_x7, od_x7, .func (PySem.W.ksFn "__init__" "EndBead.__init__" (PySem.EsX.arg0 [("bead", ⟨29, 23, 29, 27⟩)] ⟨29, 17, 29, 21⟩) [PySem.EsX.sup "bead is an end" 0 ⟨⟨30, 8, 30, 13⟩, ⟨30, 8, 30, 15⟩, ⟨30, 8, 30, 24⟩, ⟨30, 25, 30, 41⟩, ⟨30, 8, 30, 42⟩, ⟨30, 8, 30, 42⟩⟩ ⟨⟨30, 8, 30, 13⟩, ⟨30, 8, 30, 15⟩, ⟨30, 8, 30, 24⟩, ⟨30, 25, 30, 41⟩, ⟨30, 8, 30, 42⟩, ⟨30, 8, 30, 42⟩⟩, PySem.EsX.asg "bead" ⟨⟨31, 8, 31, 12⟩, ⟨31, 8, 31, 17⟩, ⟨31, 20, 31, 24⟩, ⟨31, 8, 31, 24⟩, ⟨31, 8, 31, 24⟩, ⟨31, 8, 31, 24⟩⟩] (PySem.EsX.scp ["bead"]) .none .none dc_x7 pm_x7 an_x7 (.ref cda_x7) ct_x7 cc_x7), sl_x7⟩)
    (q_x7 : PySem.W.codeIn K (.ref cda_x7) "EndBead.__init__" = true)
    (u_x7 : K.lookup cda_x7 = some ⟨ccl_x7, cdd_x7, .fields vs_x7, ccs_x7⟩)
    (w_x7 : vs_x7[2]? = some (.str fl_x7 tf_x7))
    (y_x7 : ((P.main.file : Str) == fl_x7) = true)
    (cl_x7 : K.lookup cc_x7 = some ⟨ccv_x7, cld_x7, .cell (some (.ref C7)), csl_x7⟩)
    (ga7 : PySem.W.findIn K (.ref C7) "__getattribute__" = some (some (.builtin "BaseException.__getattribute__")))
    (gg7 : PySem.W.findIn K (.ref C7) "__getattr__" = some none)
    (xc7 : PySem.W.findIn K (.ref C7) "__class__" = some (some (.builtin "object.__class__")))
    (xm7 : PySem.W.mroIn K C7 (.type "object") = some true)
    (nf7_bead : PySem.W.findIn K (.ref C7) "bead" = some none)
    (rx9 : PySem.W.subIn K (.ref C9) (.type "BaseException") = some true)
    (ty9 : PySem.W.typeIn K (.ref C9) = some (.type "type"))
    (xd9 : PySem.W.hasDictIn K C9 = true)
    (ga9 : PySem.W.findIn K (.ref C9) "__getattribute__" = some (some (.builtin "BaseException.__getattribute__")))
    (gg9 : PySem.W.findIn K (.ref C9) "__getattr__" = some none)
    (xc9 : PySem.W.findIn K (.ref C9) "__class__" = some (some (.builtin "object.__class__")))
    (xm9 : PySem.W.mroIn K C9 (.type "object") = some true)
    (rx10 : PySem.W.subIn K (.ref C10) (.type "BaseException") = some true)
    (ty10 : PySem.W.typeIn K (.ref C10) = some (.type "type"))
    (xd10 : PySem.W.hasDictIn K C10 = true)
    (kx10 : PySem.W.keepIn K (.ref C10) = true)
    (ei10 : PySem.W.excIn K C10 [.type "ValueError", .type "Exception", .type "BaseException", .type "object"] "ValueError.__new__" = true)
    (ga10 : PySem.W.findIn K (.ref C10) "__getattribute__" = some (some (.builtin "BaseException.__getattribute__")))
    (gg10 : PySem.W.findIn K (.ref C10) "__getattr__" = some none)
    (xc10 : PySem.W.findIn K (.ref C10) "__class__" = some (some (.builtin "object.__class__")))
    (xm10 : PySem.W.mroIn K C10 (.type "object") = some true)
    (rx38 : PySem.W.subIn K (.ref C38) (.type "BaseException") = some true)
    (ty38 : PySem.W.typeIn K (.ref C38) = some (.type "type"))
    (xd38 : PySem.W.hasDictIn K C38 = true)
    (kx38 : PySem.W.keepIn K (.ref C38) = true)
    (xL_x38 : K.lookup C38 = some (excClassObj nm_x38 qn_x38 C38 N_x38 bs_x38 [.ref C0, .type "ValueError", .type "Exception", .type "BaseException", .type "object"] true sn_x38 sub_x38 ab_x38 col_x38 dd_x38 m0_x38 m1_x38 m2_x38 m3_x38 m5_x38 "ValueError.__new__"))
    (al_x38 : PySem.W.alongIn K "__init__" [.ref C0, .type "ValueError", .type "Exception", .type "BaseException", .type "object"] = some (some (.builtin "ValueError.__init__")))
    (sx_x38 : PySem.W.findIn K (.ref C38) "__setattr__" = some (some (.builtin "object.__setattr__")))
    (mv_x38 : PySem.W.mroIn K C38 (.type "ValueError") = some true)
    (mc_x38 : PySem.W.mroIn K C38 (.ref C38) = some true)
    (nb_x38_bead : PySem.W.findIn K (.ref C38) "bead" = some none)
    (a_x38 : PySem.W.findIn K (.ref C38) "__init__" = some (some (.ref f_x38)))
    (t_x38 : PySem.W.typeIn K (.ref f_x38) = some (.type "function"))
    (l_x38 : K.lookup f_x38 = some ⟨oc_x38, od_x38, .func (PySem.W.ksFn "__init__" "QuietMove.__init__" (PySem.EsX.arg0 [("bead", ⟨38, 23, 38, 27⟩)] ⟨38, 17, 38, 21⟩) [PySem.EsX.sup "quiet move" 0 ⟨⟨39, 8, 39, 13⟩, ⟨39, 8, 39, 15⟩, ⟨39, 8, 39, 24⟩, ⟨39, 25, 39, 37⟩, ⟨39, 8, 39, 38⟩, ⟨39, 8, 39, 38⟩⟩ ⟨⟨39, 8, 39, 13⟩, ⟨39, 8, 39, 15⟩, ⟨39, 8, 39, 24⟩, ⟨39, 25, 39, 37⟩, ⟨39, 8, 39, 38⟩, ⟨39, 8, 39, 38⟩⟩, PySem.EsX.asg "bead" ⟨⟨40, 8, 40, 12⟩, ⟨40, 8, 40, 17⟩, ⟨40, 20, 40, 24⟩, ⟨40, 8, 40, 24⟩, ⟨40, 8, 40, 24⟩, ⟨40, 8, 40, 24⟩⟩] (PySem.EsX.scp ["bead"]) .none .none dc_x38 pm_x38 an_x38 (.ref cda_x38) ct_x38 cc_x38), sl_x38⟩)
    (q_x38 : PySem.W.codeIn K (.ref cda_x38) "QuietMove.__init__" = true)
    (u_x38 : K.lookup cda_x38 = some ⟨ccl_x38, cdd_x38, .fields vs_x38, ccs_x38⟩)
    (w_x38 : vs_x38[2]? = some (.str fl_x38 tf_x38))
    (y_x38 : ((P.main.file : Str) == fl_x38) = true)
    (cl_x38 : K.lookup cc_x38 = some ⟨ccv_x38, cld_x38, .cell (some (.ref C38)), csl_x38⟩)
    (ga38 : PySem.W.findIn K (.ref C38) "__getattribute__" = some (some (.builtin "BaseException.__getattribute__")))
    (gg38 : PySem.W.findIn K (.ref C38) "__getattr__" = some none)
    (xc38 : PySem.W.findIn K (.ref C38) "__class__" = some (some (.builtin "object.__class__")))
    (xm38 : PySem.W.mroIn K C38 (.type "object") = some true)
    (nf38_bead : PySem.W.findIn K (.ref C38) "bead" = some none)
    (sb0_5 : PySem.W.subIn K (.ref C0) (.ref C5) = some false)
    (sb0_6 : PySem.W.subIn K (.ref C0) (.ref C6) = some false)
    (sb0_7 : PySem.W.subIn K (.ref C0) (.ref C7) = some false)
    (sb0_10 : PySem.W.subIn K (.ref C0) (.ref C10) = some false)
    (sb0_38 : PySem.W.subIn K (.ref C0) (.ref C38) = some false)
    (sb1_5 : PySem.W.subIn K (.ref C1) (.ref C5) = some false)
    (sb1_6 : PySem.W.subIn K (.ref C1) (.ref C6) = some false)
    (sb1_7 : PySem.W.subIn K (.ref C1) (.ref C7) = some false)
    (sb1_10 : PySem.W.subIn K (.ref C1) (.ref C10) = some false)
    (sb1_38 : PySem.W.subIn K (.ref C1) (.ref C38) = some false)
    (sb2_5 : PySem.W.subIn K (.ref C2) (.ref C5) = some false)
    (sb2_6 : PySem.W.subIn K (.ref C2) (.ref C6) = some false)
    (sb2_7 : PySem.W.subIn K (.ref C2) (.ref C7) = some false)
    (sb2_10 : PySem.W.subIn K (.ref C2) (.ref C10) = some false)
    (sb2_38 : PySem.W.subIn K (.ref C2) (.ref C38) = some false)
    (sb5_5 : PySem.W.subIn K (.ref C5) (.ref C5) = some true)
    (sb5_6 : PySem.W.subIn K (.ref C5) (.ref C6) = some false)
    (sb5_7 : PySem.W.subIn K (.ref C5) (.ref C7) = some false)
    (sb5_10 : PySem.W.subIn K (.ref C5) (.ref C10) = some false)
    (sb5_38 : PySem.W.subIn K (.ref C5) (.ref C38) = some false)
    (sb6_5 : PySem.W.subIn K (.ref C6) (.ref C5) = some false)
    (sb6_6 : PySem.W.subIn K (.ref C6) (.ref C6) = some true)
    (sb6_7 : PySem.W.subIn K (.ref C6) (.ref C7) = some false)
    (sb6_10 : PySem.W.subIn K (.ref C6) (.ref C10) = some false)
    (sb6_38 : PySem.W.subIn K (.ref C6) (.ref C38) = some false)
    (sb7_5 : PySem.W.subIn K (.ref C7) (.ref C5) = some false)
    (sb7_6 : PySem.W.subIn K (.ref C7) (.ref C6) = some false)
    (sb7_7 : PySem.W.subIn K (.ref C7) (.ref C7) = some true)
    (sb7_10 : PySem.W.subIn K (.ref C7) (.ref C10) = some false)
    (sb7_38 : PySem.W.subIn K (.ref C7) (.ref C38) = some false)
    (sb9_5 : PySem.W.subIn K (.ref C9) (.ref C5) = some false)
    (sb9_6 : PySem.W.subIn K (.ref C9) (.ref C6) = some false)
    (sb9_7 : PySem.W.subIn K (.ref C9) (.ref C7) = some false)
    (sb9_10 : PySem.W.subIn K (.ref C9) (.ref C10) = some false)
    (sb9_38 : PySem.W.subIn K (.ref C9) (.ref C38) = some false)
    (sb10_5 : PySem.W.subIn K (.ref C10) (.ref C5) = some false)
    (sb10_6 : PySem.W.subIn K (.ref C10) (.ref C6) = some false)
    (sb10_7 : PySem.W.subIn K (.ref C10) (.ref C7) = some false)
    (sb10_10 : PySem.W.subIn K (.ref C10) (.ref C10) = some true)
    (sb10_38 : PySem.W.subIn K (.ref C10) (.ref C38) = some false)
    (sb38_5 : PySem.W.subIn K (.ref C38) (.ref C5) = some false)
    (sb38_6 : PySem.W.subIn K (.ref C38) (.ref C6) = some false)
    (sb38_7 : PySem.W.subIn K (.ref C38) (.ref C7) = some false)
    (sb38_10 : PySem.W.subIn K (.ref C38) (.ref C10) = some false)
    (sb38_38 : PySem.W.subIn K (.ref C38) (.ref C38) = some true)
    (is5_MootError : PySem.W.kitOne K (.ref C5) (.ref C0) = some true)
    (is5_ValueError : PySem.W.kitOne K (.ref C5) (.type "ValueError") = some true)
    (is6_MootError : PySem.W.kitOne K (.ref C6) (.ref C0) = some true)
    (is6_ValueError : PySem.W.kitOne K (.ref C6) (.type "ValueError") = some true)
    (is7_MootError : PySem.W.kitOne K (.ref C7) (.ref C0) = some true)
    (is7_QuietMove : PySem.W.kitOne K (.ref C7) (.ref C38) = some false)
    (is10_MootError : PySem.W.kitOne K (.ref C10) (.ref C0) = some true)
    (is10_ValueError : PySem.W.kitOne K (.ref C10) (.type "ValueError") = some true)
    (is38_MootError : PySem.W.kitOne K (.ref C38) (.ref C0) = some true)
    (is38_ValueError : PySem.W.kitOne K (.ref C38) (.type "ValueError") = some true) :
    Tx P K mg (adr [C0, C1, C2, 0, 0, C5, C6, C7, 0, C9, C10, 0, 0, 0, 0, 0, 0, 0, 0, 0, 0, 0, 0, 0, 0, 0, 0, 0, 0, 0, 0, 0, 0, 0, 0, 0, 0, 0, C38, 0, 0, 0, 0, 0, 0, 0, 0, 0, 0, C49, 0, 0, C52, 0, 0, 0, C56]) where
  c_MootError := PySem.W.mg_of X G aC0
  c_BadStrand := PySem.W.mg_of X G aC1
  c_BadKind := PySem.W.mg_of X G aC2
  c_NoSuchBead := PySem.W.mg_of X G aC5
  c_GoneBead := PySem.W.mg_of X G aC6
  c_EndBead := PySem.W.mg_of X G aC7
  c_RowFull := PySem.W.mg_of X G aC9
  c_NothingToUndo := PySem.W.mg_of X G aC10
  c_QuietMove := PySem.W.mg_of X G aC38
  c_Strand := PySem.W.mg_of X G aC49
  c_Row := PySem.W.mg_of X G aC52
  c_Game := PySem.W.mg_of X G aC56
  cl_49 := ⟨pg49, hd49, po49, sa49⟩
  mk_49 := mk49
  kp_49 := kp49
  na_49_0 := na49_0
  na_49_1 := na49_1
  na_49_2 := na49_2
  na_49_3 := na49_3
  na_49_4 := na49_4
  m_49_init := ⟨_, _, fun_mk (st := s_Strand_init) l_49_init q_49_init k_49_init, a_49_init, i_49_init⟩
  cl_52 := ⟨pg52, hd52, po52, sa52⟩
  mk_52 := mk52
  kp_52 := kp52
  na_52_0 := na52_0
  na_52_1 := na52_1
  na_52_2 := na52_2
  na_52_3 := na52_3
  na_52_4 := na52_4
  na_52_5 := na52_5
  m_52_init := ⟨_, _, fun_mk (st := s_Row_init) l_52_init q_52_init k_52_init, a_52_init, i_52_init⟩
  m_52_standing := ⟨_, _, _, fun_mk (st := s_Row_standing) l_52_standing q_52_standing k_52_standing, ⟨a_52_standing, g_52_standing, t_52_standing, ⟨_, r_52_standing⟩⟩⟩
  m_52_taken := ⟨_, _, _, fun_mk (st := s_Row_taken) l_52_taken q_52_taken k_52_taken, ⟨a_52_taken, g_52_taken, t_52_taken, ⟨_, r_52_taken⟩⟩⟩
  m_52__check_standing := ⟨_, _, fun_mk (st := s_Row_check_standing) l_52_check_standing q_52_check_standing k_52_check_standing, ⟨a_52_check_standing, i_52_check_standing, k_52_check_standing⟩⟩
  m_52__check_inner := ⟨_, _, fun_mk (st := s_Row_check_inner) l_52_check_inner q_52_check_inner k_52_check_inner, ⟨a_52_check_inner, i_52_check_inner, k_52_check_inner⟩⟩
  m_52_neighbours := ⟨_, _, fun_mk (st := s_Row_neighbours) l_52_neighbours q_52_neighbours k_52_neighbours, ⟨a_52_neighbours, i_52_neighbours, k_52_neighbours⟩⟩
  m_52_mark := ⟨_, _, fun_mk (st := s_Row_mark) l_52_mark q_52_mark k_52_mark, ⟨a_52_mark, i_52_mark, k_52_mark⟩⟩
  m_52__take_out := ⟨_, _, fun_mk (st := s_Row_take_out) l_52_take_out q_52_take_out k_52_take_out, ⟨a_52_take_out, i_52_take_out, k_52_take_out⟩⟩
  m_52_take := ⟨_, _, fun_mk (st := s_Row_take) l_52_take q_52_take k_52_take, ⟨a_52_take, i_52_take, k_52_take⟩⟩
  m_52__put_back := ⟨_, _, fun_mk (st := s_Row_put_back) l_52_put_back q_52_put_back k_52_put_back, ⟨a_52_put_back, i_52_put_back, k_52_put_back⟩⟩
  m_52_undo := ⟨_, _, fun_mk (st := s_Row_undo) l_52_undo q_52_undo k_52_undo, ⟨a_52_undo, i_52_undo, k_52_undo⟩⟩
  cl_56 := ⟨pg56, hd56, po56, sa56⟩
  mk_56 := mk56
  kp_56 := kp56
  na_56_0 := na56_0
  na_56_1 := na56_1
  m_56_init := ⟨_, _, funX_mk (st := s_Game_init) l_56_init q_56_init k_56_init (.inl ⟨rfl, rfl⟩) (.inr ⟨_, rfl, kwC_c kn_56_init_stuck_loses (.bl _) kwC_n⟩), a_56_init, i_56_init⟩
  m_56_turn := ⟨_, _, _, fun_mk (st := s_Game_turn) l_56_turn q_56_turn k_56_turn, ⟨a_56_turn, g_56_turn, t_56_turn, ⟨_, r_56_turn⟩⟩⟩
  m_56_standing := ⟨_, _, _, fun_mk (st := s_Game_standing) l_56_standing q_56_standing k_56_standing, ⟨a_56_standing, g_56_standing, t_56_standing, ⟨_, r_56_standing⟩⟩⟩
  m_56_moves := ⟨_, _, fun_mk (st := s_Game_moves) l_56_moves q_56_moves k_56_moves, ⟨a_56_moves, i_56_moves, k_56_moves⟩⟩
  m_56_is_over := ⟨_, _, fun_mk (st := s_Game_is_over) l_56_is_over q_56_is_over k_56_is_over, ⟨a_56_is_over, i_56_is_over, k_56_is_over⟩⟩
  m_56_move := ⟨_, _, fun_mk (st := s_Game_move) l_56_move q_56_move k_56_move, ⟨a_56_move, i_56_move, k_56_move⟩⟩
  m_56_undo := ⟨_, _, fun_mk (st := s_Game_undo) l_56_undo q_56_undo k_56_undo, ⟨a_56_undo, i_56_undo, k_56_undo⟩⟩
  f__law_mixed := ⟨_, _, fun_mk (st := s__law_mixed) l__law_mixed q__law_mixed k__law_mixed, PySem.W.mg_of X G a__law_mixed⟩
  f__law_draws := ⟨_, _, fun_mk (st := s__law_draws) l__law_draws q__law_draws k__law_draws, PySem.W.mg_of X G a__law_draws⟩
  f__law_cell := ⟨_, _, fun_mk (st := s__law_cell) l__law_cell q__law_cell k__law_cell, PySem.W.mg_of X G a__law_cell⟩
  f__law_kinds := ⟨_, _, fun_mk (st := s__law_kinds) l__law_kinds q__law_kinds k__law_kinds, PySem.W.mg_of X G a__law_kinds⟩
  f__law_base := ⟨_, _, fun_mk (st := s__law_base) l__law_base q__law_base k__law_base, PySem.W.mg_of X G a__law_base⟩
  f__law_game := ⟨_, _, fun_mk (st := s__law_game) l__law_game q__law_game k__law_game, PySem.W.mg_of X G a__law_game⟩
  f__law_mark := ⟨_, _, fun_mk (st := s__law_mark) l__law_mark q__law_mark k__law_mark, PySem.W.mg_of X G a__law_mark⟩
  f__law_mark_at := ⟨_, _, fun_mk (st := s__law_mark_at) l__law_mark_at q__law_mark_at k__law_mark_at, PySem.W.mg_of X G a__law_mark_at⟩
  f__law_allowed := ⟨_, _, fun_mk (st := s__law_allowed) l__law_allowed q__law_allowed k__law_allowed, PySem.W.mg_of X G a__law_allowed⟩
  f__law_bad := ⟨_, _, fun_mk (st := s__law_bad) l__law_bad q__law_bad k__law_bad, PySem.W.mg_of X G a__law_bad⟩
  f__law_is_integer := ⟨_, _, fun_mk (st := s__law_is_integer) l__law_is_integer q__law_is_integer k__law_is_integer, PySem.W.mg_of X G a__law_is_integer⟩
  f__law_same := ⟨_, _, fun_mk (st := s__law_same) l__law_same q__law_same k__law_same, PySem.W.mg_of X G a__law_same⟩
  f__law_undo := ⟨_, _, fun_mk (st := s__law_undo) l__law_undo q__law_undo k__law_undo, PySem.W.mg_of X G a__law_undo⟩
  f__law_is_undone := ⟨_, _, fun_mk (st := s__law_is_undone) l__law_is_undone q__law_is_undone k__law_is_undone, PySem.W.mg_of X G a__law_is_undone⟩
  f_mark_of := ⟨_, _, fun_mk (st := s_mark_of) l_mark_of q_mark_of k_mark_of, PySem.W.mg_of X G a_mark_of⟩
  f__law_is_told := ⟨_, _, fun_mk (st := s__law_is_told) l__law_is_told q__law_is_told k__law_is_told, PySem.W.mg_of X G a__law_is_told⟩
  f__law_all_undone := ⟨_, _, fun_mk (st := s__law_all_undone) l__law_all_undone q__law_all_undone k__law_all_undone, PySem.W.mg_of X G a__law_all_undone⟩
  f__law_move := ⟨_, _, fun_mk (st := s__law_move) l__law_move q__law_move k__law_move, PySem.W.mg_of X G a__law_move⟩
  f__law_apart := ⟨_, _, fun_mk (st := s__law_apart) l__law_apart q__law_apart k__law_apart, PySem.W.mg_of X G a__law_apart⟩
  f_law := ⟨_, _, fun_mk (st := s_law) l_law q_law k_law, PySem.W.mg_of X G a_law⟩
  b_ValueError := PySem.W.mg_none_of X G z_ValueError
  b_bool := PySem.W.mg_none_of X G z_bool
  b_int := PySem.W.mg_none_of X G z_int
  b_isinstance := PySem.W.mg_none_of X G z_isinstance
  b_len := PySem.W.mg_none_of X G z_len
  b_list := PySem.W.mg_none_of X G z_list
  b_range := PySem.W.mg_none_of X G z_range
  b_set := PySem.W.mg_none_of X G z_set
  b_sorted := PySem.W.mg_none_of X G z_sorted
  b_str := PySem.W.mg_none_of X G z_str
  b_tuple := PySem.W.mg_none_of X G z_tuple
  cc_49_MOST := ⟨.type "type", _, ⟨rd49, gc49⟩, cv49_MOST, (.int _ _)⟩
  cc_49_TOP_KIND := ⟨.type "type", _, ⟨rd49, gc49⟩, cv49_TOP_KIND, (.int _ _)⟩
  ty_0 := ty0
  ec_0 := ⟨ga0, gg0, rx0, xd0, xc0, cgn, cgt, xm0⟩
  ty_1 := ty1
  kx_1 := kx1
  rx_1 := rx1
  es_1 := ⟨⟨nm_x1, qn_x1, N_x1, bs_x1, _, sn_x1, sub_x1, ab_x1, col_x1, dd_x1, m0_x1, m1_x1, m2_x1, m3_x1, m5_x1, xL_x1, rfl, al_x1⟩, sx_x1, mv_x1, mc_x1, fun f hf => by
      simp only [List.mem_cons, List.not_mem_nil, or_false] at hf
      rcases hf with rfl
      · exact nb_x1_at, opq, PySem.W.mg_none_of X G zsuper, hfile,
      ⟨f_x1, cc_x1, cda_x1, oc_x1, ccl_x1, ccv_x1, dc_x1, pm_x1, ct_x1, od_x1, an_x1, cdd_x1, cld_x1, sl_x1, ccs_x1, csl_x1, "BadStrand.__init__", "not a strand", 0, [⟨9, 23, 9, 25⟩], ⟨9, 17, 9, 21⟩, ⟨⟨10, 8, 10, 13⟩, ⟨10, 8, 10, 15⟩, ⟨10, 8, 10, 24⟩, ⟨10, 25, 10, 39⟩, ⟨10, 8, 10, 40⟩, ⟨10, 8, 10, 40⟩⟩, ⟨⟨10, 8, 10, 13⟩, ⟨10, 8, 10, 15⟩, ⟨10, 8, 10, 24⟩, ⟨10, 25, 10, 39⟩, ⟨10, 8, 10, 40⟩, ⟨10, 8, 10, 40⟩⟩, [⟨⟨11, 8, 11, 12⟩, ⟨11, 8, 11, 15⟩, ⟨11, 18, 11, 20⟩, ⟨11, 8, 11, 20⟩, ⟨11, 8, 11, 20⟩, ⟨11, 8, 11, 20⟩⟩], vs_x1, fl_x1, tf_x1, a_x1, t_x1, rfl, rfl, l_x1, q_x1, u_x1, w_x1, y_x1, cl_x1, fun L => ⟨_, rfl⟩⟩⟩
  ec_1 := ⟨ga1, gg1, rx1, xd1, xc1, cgn, cgt, xm1⟩
  ty_2 := ty2
  ec_2 := ⟨ga2, gg2, rx2, xd2, xc2, cgn, cgt, xm2⟩
  ty_5 := ty5
  kx_5 := kx5
  rx_5 := rx5
  es_5 := ⟨⟨nm_x5, qn_x5, N_x5, bs_x5, _, sn_x5, sub_x5, ab_x5, col_x5, dd_x5, m0_x5, m1_x5, m2_x5, m3_x5, m5_x5, xL_x5, rfl, al_x5⟩, sx_x5, mv_x5, mc_x5, fun f hf => by
      simp only [List.mem_cons, List.not_mem_nil, or_false] at hf
      rcases hf with rfl
      · exact nb_x5_bead, opq, PySem.W.mg_none_of X G zsuper, hfile,
      ⟨f_x5, cc_x5, cda_x5, oc_x5, ccl_x5, ccv_x5, dc_x5, pm_x5, ct_x5, od_x5, an_x5, cdd_x5, cld_x5, sl_x5, ccs_x5, csl_x5, "NoSuchBead.__init__", "no such bead", 0, [⟨19, 23, 19, 27⟩], ⟨19, 17, 19, 21⟩, ⟨⟨20, 8, 20, 13⟩, ⟨20, 8, 20, 15⟩, ⟨20, 8, 20, 24⟩, ⟨20, 25, 20, 39⟩, ⟨20, 8, 20, 40⟩, ⟨20, 8, 20, 40⟩⟩, ⟨⟨20, 8, 20, 13⟩, ⟨20, 8, 20, 15⟩, ⟨20, 8, 20, 24⟩, ⟨20, 25, 20, 39⟩, ⟨20, 8, 20, 40⟩, ⟨20, 8, 20, 40⟩⟩, [⟨⟨21, 8, 21, 12⟩, ⟨21, 8, 21, 17⟩, ⟨21, 20, 21, 24⟩, ⟨21, 8, 21, 24⟩, ⟨21, 8, 21, 24⟩, ⟨21, 8, 21, 24⟩⟩], vs_x5, fl_x5, tf_x5, a_x5, t_x5, rfl, rfl, l_x5, q_x5, u_x5, w_x5, y_x5, cl_x5, fun L => ⟨_, rfl⟩⟩⟩
  ec_5 := ⟨ga5, gg5, rx5, xd5, xc5, cgn, cgt, xm5⟩
  xf_5 := ⟨ga5, gg5, rx5, xd5⟩
  nf_5_bead := nf5_bead
  ty_6 := ty6
  kx_6 := kx6
  rx_6 := rx6
  es_6 := ⟨⟨nm_x6, qn_x6, N_x6, bs_x6, _, sn_x6, sub_x6, ab_x6, col_x6, dd_x6, m0_x6, m1_x6, m2_x6, m3_x6, m5_x6, xL_x6, rfl, al_x6⟩, sx_x6, mv_x6, mc_x6, fun f hf => by
      simp only [List.mem_cons, List.not_mem_nil, or_false] at hf
      rcases hf with rfl
      · exact nb_x6_bead, opq, PySem.W.mg_none_of X G zsuper, hfile,
      ⟨f_x6, cc_x6, cda_x6, oc_x6, ccl_x6, ccv_x6, dc_x6, pm_x6, ct_x6, od_x6, an_x6, cdd_x6, cld_x6, sl_x6, ccs_x6, csl_x6, "GoneBead.__init__", "bead is gone", 0, [⟨24, 23, 24, 27⟩], ⟨24, 17, 24, 21⟩, ⟨⟨25, 8, 25, 13⟩, ⟨25, 8, 25, 15⟩, ⟨25, 8, 25, 24⟩, ⟨25, 25, 25, 39⟩, ⟨25, 8, 25, 40⟩, ⟨25, 8, 25, 40⟩⟩, ⟨⟨25, 8, 25, 13⟩, ⟨25, 8, 25, 15⟩, ⟨25, 8, 25, 24⟩, ⟨25, 25, 25, 39⟩, ⟨25, 8, 25, 40⟩, ⟨25, 8, 25, 40⟩⟩, [⟨⟨26, 8, 26, 12⟩, ⟨26, 8, 26, 17⟩, ⟨26, 20, 26, 24⟩, ⟨26, 8, 26, 24⟩, ⟨26, 8, 26, 24⟩, ⟨26, 8, 26, 24⟩⟩], vs_x6, fl_x6, tf_x6, a_x6, t_x6, rfl, rfl, l_x6, q_x6, u_x6, w_x6, y_x6, cl_x6, fun L => ⟨_, rfl⟩⟩⟩
  ec_6 := ⟨ga6, gg6, rx6, xd6, xc6, cgn, cgt, xm6⟩
  xf_6 := ⟨ga6, gg6, rx6, xd6⟩
  nf_6_bead := nf6_bead
  ty_7 := ty7
  kx_7 := kx7
  rx_7 := rx7
  es_7 := ⟨⟨nm_x7, qn_x7, N_x7, bs_x7, _, sn_x7, sub_x7, ab_x7, col_x7, dd_x7, m0_x7, m1_x7, m2_x7, m3_x7, m5_x7, xL_x7, rfl, al_x7⟩, sx_x7, mv_x7, mc_x7, fun f hf => by
      simp only [List.mem_cons, List.not_mem_nil, or_false] at hf
      rcases hf with rfl
      · exact nb_x7_bead, opq, PySem.W.mg_none_of X G zsuper, hfile,
      ⟨f_x7, cc_x7, cda_x7, oc_x7, ccl_x7, ccv_x7, dc_x7, pm_x7, ct_x7, od_x7, an_x7, cdd_x7, cld_x7, sl_x7, ccs_x7, csl_x7, "EndBead.__init__", "bead is an end", 0, [⟨29, 23, 29, 27⟩], ⟨29, 17, 29, 21⟩, ⟨⟨30, 8, 30, 13⟩, ⟨30, 8, 30, 15⟩, ⟨30, 8, 30, 24⟩, ⟨30, 25, 30, 41⟩, ⟨30, 8, 30, 42⟩, ⟨30, 8, 30, 42⟩⟩, ⟨⟨30, 8, 30, 13⟩, ⟨30, 8, 30, 15⟩, ⟨30, 8, 30, 24⟩, ⟨30, 25, 30, 41⟩, ⟨30, 8, 30, 42⟩, ⟨30, 8, 30, 42⟩⟩, [⟨⟨31, 8, 31, 12⟩, ⟨31, 8, 31, 17⟩, ⟨31, 20, 31, 24⟩, ⟨31, 8, 31, 24⟩, ⟨31, 8, 31, 24⟩, ⟨31, 8, 31, 24⟩⟩], vs_x7, fl_x7, tf_x7, a_x7, t_x7, rfl, rfl, l_x7, q_x7, u_x7, w_x7, y_x7, cl_x7, fun L => ⟨_, rfl⟩⟩⟩
  ec_7 := ⟨ga7, gg7, rx7, xd7, xc7, cgn, cgt, xm7⟩
  xf_7 := ⟨ga7, gg7, rx7, xd7⟩
  nf_7_bead := nf7_bead
  ty_9 := ty9
  ec_9 := ⟨ga9, gg9, rx9, xd9, xc9, cgn, cgt, xm9⟩
  ty_10 := ty10
  kx_10 := kx10
  rx_10 := rx10
  ei_10 := ei10
  ec_10 := ⟨ga10, gg10, rx10, xd10, xc10, cgn, cgt, xm10⟩
  ty_38 := ty38
  kx_38 := kx38
  rx_38 := rx38
  es_38 := ⟨⟨nm_x38, qn_x38, N_x38, bs_x38, _, sn_x38, sub_x38, ab_x38, col_x38, dd_x38, m0_x38, m1_x38, m2_x38, m3_x38, m5_x38, xL_x38, rfl, al_x38⟩, sx_x38, mv_x38, mc_x38, fun f hf => by
      simp only [List.mem_cons, List.not_mem_nil, or_false] at hf
      rcases hf with rfl
      · exact nb_x38_bead, opq, PySem.W.mg_none_of X G zsuper, hfile,
      ⟨f_x38, cc_x38, cda_x38, oc_x38, ccl_x38, ccv_x38, dc_x38, pm_x38, ct_x38, od_x38, an_x38, cdd_x38, cld_x38, sl_x38, ccs_x38, csl_x38, "QuietMove.__init__", "quiet move", 0, [⟨38, 23, 38, 27⟩], ⟨38, 17, 38, 21⟩, ⟨⟨39, 8, 39, 13⟩, ⟨39, 8, 39, 15⟩, ⟨39, 8, 39, 24⟩, ⟨39, 25, 39, 37⟩, ⟨39, 8, 39, 38⟩, ⟨39, 8, 39, 38⟩⟩, ⟨⟨39, 8, 39, 13⟩, ⟨39, 8, 39, 15⟩, ⟨39, 8, 39, 24⟩, ⟨39, 25, 39, 37⟩, ⟨39, 8, 39, 38⟩, ⟨39, 8, 39, 38⟩⟩, [⟨⟨40, 8, 40, 12⟩, ⟨40, 8, 40, 17⟩, ⟨40, 20, 40, 24⟩, ⟨40, 8, 40, 24⟩, ⟨40, 8, 40, 24⟩, ⟨40, 8, 40, 24⟩⟩], vs_x38, fl_x38, tf_x38, a_x38, t_x38, rfl, rfl, l_x38, q_x38, u_x38, w_x38, y_x38, cl_x38, fun L => ⟨_, rfl⟩⟩⟩
  ec_38 := ⟨ga38, gg38, rx38, xd38, xc38, cgn, cgt, xm38⟩
  xf_38 := ⟨ga38, gg38, rx38, xd38⟩
  nf_38_bead := nf38_bead
  sb_0_5 := sb0_5
  sb_0_6 := sb0_6
  sb_0_7 := sb0_7
  sb_0_10 := sb0_10
  sb_0_38 := sb0_38
  sb_1_5 := sb1_5
  sb_1_6 := sb1_6
  sb_1_7 := sb1_7
  sb_1_10 := sb1_10
  sb_1_38 := sb1_38
  sb_2_5 := sb2_5
  sb_2_6 := sb2_6
  sb_2_7 := sb2_7
  sb_2_10 := sb2_10
  sb_2_38 := sb2_38
  sb_5_5 := sb5_5
  sb_5_6 := sb5_6
  sb_5_7 := sb5_7
  sb_5_10 := sb5_10
  sb_5_38 := sb5_38
  sb_6_5 := sb6_5
  sb_6_6 := sb6_6
  sb_6_7 := sb6_7
  sb_6_10 := sb6_10
  sb_6_38 := sb6_38
  sb_7_5 := sb7_5
  sb_7_6 := sb7_6
  sb_7_7 := sb7_7
  sb_7_10 := sb7_10
  sb_7_38 := sb7_38
  sb_9_5 := sb9_5
  sb_9_6 := sb9_6
  sb_9_7 := sb9_7
  sb_9_10 := sb9_10
  sb_9_38 := sb9_38
  sb_10_5 := sb10_5
  sb_10_6 := sb10_6
  sb_10_7 := sb10_7
  sb_10_10 := sb10_10
  sb_10_38 := sb10_38
  sb_38_5 := sb38_5
  sb_38_6 := sb38_6
  sb_38_7 := sb38_7
  sb_38_10 := sb38_10
  sb_38_38 := sb38_38
  is_5_MootError := is5_MootError
  is_5_ValueError := is5_ValueError
  is_6_MootError := is6_MootError
  is_6_ValueError := is6_ValueError
  is_7_MootError := is7_MootError
  is_7_QuietMove := is7_QuietMove
  is_10_MootError := is10_MootError
  is_10_ValueError := is10_ValueError
  is_38_MootError := is38_MootError
  is_38_ValueError := is38_ValueError
theorem fin {P : Program} {w : World} {K : PySem.W.Frag} {mg : Str → Option Value} {fa : Addr} {A : Nat → Addr} (T : Tx P K mg A) (h : mg "law" = some (.ref fa)) : ∃ (C : Cfg) (lv : Bool) (fd : FuncData), (∀ (s : Shared) (u : Value), BindsTo s fd ⟨[u], []⟩ [("_law_script", u)]) ∧
    ∀ base : Heap, K.In base → base.Ns mainGlobals mg → FnOk P w K mg base (L2N.CX P w) 11 fa fd ["_law_script"] (spF K C lv false F_law) := by
  obtain ⟨f, fd, Fu, hm⟩ := T.f_law
  cases Value.ref.inj (Option.some.inj (hm.symm.trans h))
  refine ⟨cfg A, true, fd, fun s u => ?_, fun base _ _ => d_law T Fu⟩
  obtain ⟨oc, od, kV, doc, pm, an, cdv, ct, osl, rfl, lk, hcd⟩ := Fu.ex
  exact .of_eq rfl
end K27
open PySem PySem.W PyProof.Rows in
set_option maxRecDepth 100000 in
set_option maxHeartbeats 0 in
theorem PySem.Challenge.cw_beadmoot_k27_game_doors_holds : PySem.Challenge.rw_beadmoot_k27_game_doors.Holds := by
  w_on; o_law; k_head; (case hw => w_witness2)
  k_fill
  refine Sm.walk_sim (l := PySem.Challenge.rw_beadmoot_k27_game_doors) (n := 63) (k := 11) (x := "_law_script") (F := K27.F_law) rfl (by decide) rfl ⟨rfl, by decide, by decide⟩ (fun w h Y => PySem.W.kIn_of Y) ?F ?L
  case L => exact K27.law_true
  case F =>
    intro w mg fa h KX G LL hmg
    refine' K27.fin (K27.all_mk KX G (by kernel_rfl)  ?aC0 ?aC1 ?aC2 ?aC5 ?aC6 ?aC7 ?aC9 ?aC10 ?aC38 ?aC49 ?aC52 ?aC56 ?pg49 ?hd49 ?po49 ?sa49 ?mk49 ?kp49 ?na49_0 ?na49_1 ?na49_2 ?na49_3 ?na49_4 ?a_49_init ?i_49_init ?l_49_init ?q_49_init ?k_49_init ?pg52 ?hd52 ?po52 ?sa52 ?mk52 ?kp52 ?na52_0 ?na52_1 ?na52_2 ?na52_3 ?na52_4 ?na52_5 ?a_52_init ?i_52_init ?l_52_init ?q_52_init ?k_52_init ?a_52_standing ?g_52_standing ?t_52_standing ?r_52_standing ?l_52_standing ?q_52_standing ?k_52_standing ?a_52_taken ?g_52_taken ?t_52_taken ?r_52_taken ?l_52_taken ?q_52_taken ?k_52_taken ?a_52_check_standing ?i_52_check_standing ?l_52_check_standing ?q_52_check_standing ?k_52_check_standing ?a_52_check_inner ?i_52_check_inner ?l_52_check_inner ?q_52_check_inner ?k_52_check_inner ?a_52_neighbours ?i_52_neighbours ?l_52_neighbours ?q_52_neighbours ?k_52_neighbours ?a_52_mark ?i_52_mark ?l_52_mark ?q_52_mark ?k_52_mark ?a_52_take_out ?i_52_take_out ?l_52_take_out ?q_52_take_out ?k_52_take_out ?a_52_take ?i_52_take ?l_52_take ?q_52_take ?k_52_take ?a_52_put_back ?i_52_put_back ?l_52_put_back ?q_52_put_back ?k_52_put_back ?a_52_undo ?i_52_undo ?l_52_undo ?q_52_undo ?k_52_undo ?pg56 ?hd56 ?po56 ?sa56 ?mk56 ?kp56 ?na56_0 ?na56_1 ?a_56_init ?i_56_init ?l_56_init ?q_56_init ?k_56_init ?kn_56_init_stuck_loses ?a_56_turn ?g_56_turn ?t_56_turn ?r_56_turn ?l_56_turn ?q_56_turn ?k_56_turn ?a_56_standing ?g_56_standing ?t_56_standing ?r_56_standing ?l_56_standing ?q_56_standing ?k_56_standing ?a_56_moves ?i_56_moves ?l_56_moves ?q_56_moves ?k_56_moves ?a_56_is_over ?i_56_is_over ?l_56_is_over ?q_56_is_over ?k_56_is_over ?a_56_move ?i_56_move ?l_56_move ?q_56_move ?k_56_move ?a_56_undo ?i_56_undo ?l_56_undo ?q_56_undo ?k_56_undo ?a__law_mixed ?l__law_mixed ?q__law_mixed ?k__law_mixed ?a__law_draws ?l__law_draws ?q__law_draws ?k__law_draws ?a__law_cell ?l__law_cell ?q__law_cell ?k__law_cell ?a__law_kinds ?l__law_kinds ?q__law_kinds ?k__law_kinds ?a__law_base ?l__law_base ?q__law_base ?k__law_base ?a__law_game ?l__law_game ?q__law_game ?k__law_game ?a__law_mark ?l__law_mark ?q__law_mark ?k__law_mark ?a__law_mark_at ?l__law_mark_at ?q__law_mark_at ?k__law_mark_at ?a__law_allowed ?l__law_allowed ?q__law_allowed ?k__law_allowed ?a__law_bad ?l__law_bad ?q__law_bad ?k__law_bad ?a__law_is_integer ?l__law_is_integer ?q__law_is_integer ?k__law_is_integer ?a__law_same ?l__law_same ?q__law_same ?k__law_same ?a__law_undo ?l__law_undo ?q__law_undo ?k__law_undo ?a__law_is_undone ?l__law_is_undone ?q__law_is_undone ?k__law_is_undone ?a_mark_of ?l_mark_of ?q_mark_of ?k_mark_of ?a__law_is_told ?l__law_is_told ?q__law_is_told ?k__law_is_told ?a__law_all_undone ?l__law_all_undone ?q__law_all_undone ?k__law_all_undone ?a__law_move ?l__law_move ?q__law_move ?k__law_move ?a__law_apart ?l__law_apart ?q__law_apart ?k__law_apart ?a_law ?l_law ?q_law ?k_law ?z_ValueError ?z_bool ?z_int ?z_isinstance ?z_len ?z_list ?z_range ?z_set ?z_sorted ?z_str ?z_tuple ?rd49 ?gc49 ?cv49_MOST ?cv49_TOP_KIND ?opq ?zsuper ?cgn ?cgt ?rx0 ?ty0 ?xd0 ?ga0 ?gg0 ?xc0 ?xm0 ?rx1 ?ty1 ?xd1 ?kx1 ?xL_x1 ?al_x1 ?sx_x1 ?mv_x1 ?mc_x1 ?nb_x1_at ?a_x1 ?t_x1 ?l_x1 ?q_x1 ?u_x1 ?w_x1 ?y_x1 ?cl_x1 ?ga1 ?gg1 ?xc1 ?xm1 ?rx2 ?ty2 ?xd2 ?ga2 ?gg2 ?xc2 ?xm2 ?rx5 ?ty5 ?xd5 ?kx5 ?xL_x5 ?al_x5 ?sx_x5 ?mv_x5 ?mc_x5 ?nb_x5_bead ?a_x5 ?t_x5 ?l_x5 ?q_x5 ?u_x5 ?w_x5 ?y_x5 ?cl_x5 ?ga5 ?gg5 ?xc5 ?xm5 ?nf5_bead ?rx6 ?ty6 ?xd6 ?kx6 ?xL_x6 ?al_x6 ?sx_x6 ?mv_x6 ?mc_x6 ?nb_x6_bead ?a_x6 ?t_x6 ?l_x6 ?q_x6 ?u_x6 ?w_x6 ?y_x6 ?cl_x6 ?ga6 ?gg6 ?xc6 ?xm6 ?nf6_bead ?rx7 ?ty7 ?xd7 ?kx7 ?xL_x7 ?al_x7 ?sx_x7 ?mv_x7 ?mc_x7 ?nb_x7_bead ?a_x7 ?t_x7 ?l_x7 ?q_x7 ?u_x7 ?w_x7 ?y_x7 ?cl_x7 ?ga7 ?gg7 ?xc7 ?xm7 ?nf7_bead ?rx9 ?ty9 ?xd9 ?ga9 ?gg9 ?xc9 ?xm9 ?rx10 ?ty10 ?xd10 ?kx10 ?ei10 ?ga10 ?gg10 ?xc10 ?xm10 ?rx38 ?ty38 ?xd38 ?kx38 ?xL_x38 ?al_x38 ?sx_x38 ?mv_x38 ?mc_x38 ?nb_x38_bead ?a_x38 ?t_x38 ?l_x38 ?q_x38 ?u_x38 ?w_x38 ?y_x38 ?cl_x38 ?ga38 ?gg38 ?xc38 ?xm38 ?nf38_bead ?sb0_5 ?sb0_6 ?sb0_7 ?sb0_10 ?sb0_38 ?sb1_5 ?sb1_6 ?sb1_7 ?sb1_10 ?sb1_38 ?sb2_5 ?sb2_6 ?sb2_7 ?sb2_10 ?sb2_38 ?sb5_5 ?sb5_6 ?sb5_7 ?sb5_10 ?sb5_38 ?sb6_5 ?sb6_6 ?sb6_7 ?sb6_10 ?sb6_38 ?sb7_5 ?sb7_6 ?sb7_7 ?sb7_10 ?sb7_38 ?sb9_5 ?sb9_6 ?sb9_7 ?sb9_10 ?sb9_38 ?sb10_5 ?sb10_6 ?sb10_7 ?sb10_10 ?sb10_38 ?sb38_5 ?sb38_6 ?sb38_7 ?sb38_10 ?sb38_38 ?is5_MootError ?is5_ValueError ?is6_MootError ?is6_ValueError ?is7_MootError ?is7_QuietMove ?is10_MootError ?is10_ValueError ?is38_MootError ?is38_ValueError) hmg
    (case aC0 => first | k_is | rfl | kernel_rfl)
    (case aC1 => first | k_is | rfl | kernel_rfl)
    (case aC2 => first | k_is | rfl | kernel_rfl)
    (case aC5 => first | k_is | rfl | kernel_rfl)
    (case aC6 => first | k_is | rfl | kernel_rfl)
    (case aC7 => first | k_is | rfl | kernel_rfl)
    (case aC9 => first | k_is | rfl | kernel_rfl)
    (case aC10 => first | k_is | rfl | kernel_rfl)
    (case aC38 => first | k_is | rfl | kernel_rfl)
    (case aC49 => first | k_is | rfl | kernel_rfl)
    (case aC52 => first | k_is | rfl | kernel_rfl)
    (case aC56 => first | k_is | rfl | kernel_rfl)
    (case pg49 => first | k_is | rfl | kernel_rfl)
    (case hd49 => first | k_is | rfl | kernel_rfl)
    (case po49 => first | k_is | rfl | kernel_rfl)
    (case sa49 => first | k_is | rfl | kernel_rfl)
    (case mk49 => first | k_is | rfl | kernel_rfl)
    (case kp49 => first | k_is | rfl | kernel_rfl)
    (case na49_0 => first | k_is | rfl | kernel_rfl)
    (case na49_1 => first | k_is | rfl | kernel_rfl)
    (case na49_2 => first | k_is | rfl | kernel_rfl)
    (case na49_3 => first | k_is | rfl | kernel_rfl)
    (case na49_4 => first | k_is | rfl | kernel_rfl)
    (case a_49_init => first | k_is | rfl | kernel_rfl)
    (case i_49_init => first | k_is | rfl | kernel_rfl)
    (case l_49_init => first | k_is | rfl | kernel_rfl)
    (case q_49_init => first | k_is | rfl | kernel_rfl)
    (case k_49_init => first | k_is | rfl | kernel_rfl)
    (case pg52 => first | k_is | rfl | kernel_rfl)
    (case hd52 => first | k_is | rfl | kernel_rfl)
    (case po52 => first | k_is | rfl | kernel_rfl)
    (case sa52 => first | k_is | rfl | kernel_rfl)
    (case mk52 => first | k_is | rfl | kernel_rfl)
    (case kp52 => first | k_is | rfl | kernel_rfl)
    (case na52_0 => first | k_is | rfl | kernel_rfl)
    (case na52_1 => first | k_is | rfl | kernel_rfl)
    (case na52_2 => first | k_is | rfl | kernel_rfl)
    (case na52_3 => first | k_is | rfl | kernel_rfl)
    (case na52_4 => first | k_is | rfl | kernel_rfl)
    (case na52_5 => first | k_is | rfl | kernel_rfl)
    (case a_52_init => first | k_is | rfl | kernel_rfl)
    (case i_52_init => first | k_is | rfl | kernel_rfl)
    (case l_52_init => first | k_is | rfl | kernel_rfl)
    (case q_52_init => first | k_is | rfl | kernel_rfl)
    (case k_52_init => first | k_is | rfl | kernel_rfl)
    (case a_52_standing => first | k_is | rfl | kernel_rfl)
    (case g_52_standing => first | k_is | rfl | kernel_rfl)
    (case t_52_standing => first | k_is | rfl | kernel_rfl)
    (case r_52_standing => first | k_is | rfl | kernel_rfl)
    (case l_52_standing => first | k_is | rfl | kernel_rfl)
    (case q_52_standing => first | k_is | rfl | kernel_rfl)
    (case k_52_standing => first | k_is | rfl | kernel_rfl)
    (case a_52_taken => first | k_is | rfl | kernel_rfl)
    (case g_52_taken => first | k_is | rfl | kernel_rfl)
    (case t_52_taken => first | k_is | rfl | kernel_rfl)
    (case r_52_taken => first | k_is | rfl | kernel_rfl)
    (case l_52_taken => first | k_is | rfl | kernel_rfl)
    (case q_52_taken => first | k_is | rfl | kernel_rfl)
    (case k_52_taken => first | k_is | rfl | kernel_rfl)
    (case a_52_check_standing => first | k_is | rfl | kernel_rfl)
    (case i_52_check_standing => first | k_is | rfl | kernel_rfl)
    (case l_52_check_standing => first | k_is | rfl | kernel_rfl)
    (case q_52_check_standing => first | k_is | rfl | kernel_rfl)
    (case k_52_check_standing => first | k_is | rfl | kernel_rfl)
    (case a_52_check_inner => first | k_is | rfl | kernel_rfl)
    (case i_52_check_inner => first | k_is | rfl | kernel_rfl)
    (case l_52_check_inner => first | k_is | rfl | kernel_rfl)
    (case q_52_check_inner => first | k_is | rfl | kernel_rfl)
    (case k_52_check_inner => first | k_is | rfl | kernel_rfl)
    (case a_52_neighbours => first | k_is | rfl | kernel_rfl)
    (case i_52_neighbours => first | k_is | rfl | kernel_rfl)
    (case l_52_neighbours => first | k_is | rfl | kernel_rfl)
    (case q_52_neighbours => first | k_is | rfl | kernel_rfl)
    (case k_52_neighbours => first | k_is | rfl | kernel_rfl)
    (case a_52_mark => first | k_is | rfl | kernel_rfl)
    (case i_52_mark => first | k_is | rfl | kernel_rfl)
    (case l_52_mark => first | k_is | rfl | kernel_rfl)
    (case q_52_mark => first | k_is | rfl | kernel_rfl)
    (case k_52_mark => first | k_is | rfl | kernel_rfl)
    (case a_52_take_out => first | k_is | rfl | kernel_rfl)
    (case i_52_take_out => first | k_is | rfl | kernel_rfl)
    (case l_52_take_out => first | k_is | rfl | kernel_rfl)
    (case q_52_take_out => first | k_is | rfl | kernel_rfl)
    (case k_52_take_out => first | k_is | rfl | kernel_rfl)
    (case a_52_take => first | k_is | rfl | kernel_rfl)
    (case i_52_take => first | k_is | rfl | kernel_rfl)
    (case l_52_take => first | k_is | rfl | kernel_rfl)
    (case q_52_take => first | k_is | rfl | kernel_rfl)
    (case k_52_take => first | k_is | rfl | kernel_rfl)
    (case a_52_put_back => first | k_is | rfl | kernel_rfl)
    (case i_52_put_back => first | k_is | rfl | kernel_rfl)
    (case l_52_put_back => first | k_is | rfl | kernel_rfl)
    (case q_52_put_back => first | k_is | rfl | kernel_rfl)
    (case k_52_put_back => first | k_is | rfl | kernel_rfl)
    (case a_52_undo => first | k_is | rfl | kernel_rfl)
    (case i_52_undo => first | k_is | rfl | kernel_rfl)
    (case l_52_undo => first | k_is | rfl | kernel_rfl)
    (case q_52_undo => first | k_is | rfl | kernel_rfl)
    (case k_52_undo => first | k_is | rfl | kernel_rfl)
    (case pg56 => first | k_is | rfl | kernel_rfl)
    (case hd56 => first | k_is | rfl | kernel_rfl)
    (case po56 => first | k_is | rfl | kernel_rfl)
    (case sa56 => first | k_is | rfl | kernel_rfl)
    (case mk56 => first | k_is | rfl | kernel_rfl)
    (case kp56 => first | k_is | rfl | kernel_rfl)
    (case na56_0 => first | k_is | rfl | kernel_rfl)
    (case na56_1 => first | k_is | rfl | kernel_rfl)
    (case a_56_init => first | k_is | rfl | kernel_rfl)
    (case i_56_init => first | k_is | rfl | kernel_rfl)
    (case l_56_init => first | k_is | rfl | kernel_rfl)
    (case q_56_init => first | k_is | rfl | kernel_rfl)
    (case k_56_init => first | k_is | rfl | kernel_rfl)
    (case kn_56_init_stuck_loses => first | k_is | rfl | kernel_rfl)
    (case a_56_turn => first | k_is | rfl | kernel_rfl)
    (case g_56_turn => first | k_is | rfl | kernel_rfl)
    (case t_56_turn => first | k_is | rfl | kernel_rfl)
    (case r_56_turn => first | k_is | rfl | kernel_rfl)
    (case l_56_turn => first | k_is | rfl | kernel_rfl)
    (case q_56_turn => first | k_is | rfl | kernel_rfl)
    (case k_56_turn => first | k_is | rfl | kernel_rfl)
    (case a_56_standing => first | k_is | rfl | kernel_rfl)
    (case g_56_standing => first | k_is | rfl | kernel_rfl)
    (case t_56_standing => first | k_is | rfl | kernel_rfl)
    (case r_56_standing => first | k_is | rfl | kernel_rfl)
    (case l_56_standing => first | k_is | rfl | kernel_rfl)
    (case q_56_standing => first | k_is | rfl | kernel_rfl)
    (case k_56_standing => first | k_is | rfl | kernel_rfl)
    (case a_56_moves => first | k_is | rfl | kernel_rfl)
    (case i_56_moves => first | k_is | rfl | kernel_rfl)
    (case l_56_moves => first | k_is | rfl | kernel_rfl)
    (case q_56_moves => first | k_is | rfl | kernel_rfl)
    (case k_56_moves => first | k_is | rfl | kernel_rfl)
    (case a_56_is_over => first | k_is | rfl | kernel_rfl)
    (case i_56_is_over => first | k_is | rfl | kernel_rfl)
    (case l_56_is_over => first | k_is | rfl | kernel_rfl)
    (case q_56_is_over => first | k_is | rfl | kernel_rfl)
    (case k_56_is_over => first | k_is | rfl | kernel_rfl)
    (case a_56_move => first | k_is | rfl | kernel_rfl)
    (case i_56_move => first | k_is | rfl | kernel_rfl)
    (case l_56_move => first | k_is | rfl | kernel_rfl)
    (case q_56_move => first | k_is | rfl | kernel_rfl)
    (case k_56_move => first | k_is | rfl | kernel_rfl)
    (case a_56_undo => first | k_is | rfl | kernel_rfl)
    (case i_56_undo => first | k_is | rfl | kernel_rfl)
    (case l_56_undo => first | k_is | rfl | kernel_rfl)
    (case q_56_undo => first | k_is | rfl | kernel_rfl)
    (case k_56_undo => first | k_is | rfl | kernel_rfl)
    (case a__law_mixed => first | k_is | rfl | kernel_rfl)
    (case l__law_mixed => first | k_is | rfl | kernel_rfl)
    (case q__law_mixed => first | k_is | rfl | kernel_rfl)
    (case k__law_mixed => first | k_is | rfl | kernel_rfl)
    (case a__law_draws => first | k_is | rfl | kernel_rfl)
    (case l__law_draws => first | k_is | rfl | kernel_rfl)
    (case q__law_draws => first | k_is | rfl | kernel_rfl)
    (case k__law_draws => first | k_is | rfl | kernel_rfl)
    (case a__law_cell => first | k_is | rfl | kernel_rfl)
    (case l__law_cell => first | k_is | rfl | kernel_rfl)
    (case q__law_cell => first | k_is | rfl | kernel_rfl)
    (case k__law_cell => first | k_is | rfl | kernel_rfl)
    (case a__law_kinds => first | k_is | rfl | kernel_rfl)
    (case l__law_kinds => first | k_is | rfl | kernel_rfl)
    (case q__law_kinds => first | k_is | rfl | kernel_rfl)
    (case k__law_kinds => first | k_is | rfl | kernel_rfl)
    (case a__law_base => first | k_is | rfl | kernel_rfl)
    (case l__law_base => first | k_is | rfl | kernel_rfl)
    (case q__law_base => first | k_is | rfl | kernel_rfl)
    (case k__law_base => first | k_is | rfl | kernel_rfl)
    (case a__law_game => first | k_is | rfl | kernel_rfl)
    (case l__law_game => first | k_is | rfl | kernel_rfl)
    (case q__law_game => first | k_is | rfl | kernel_rfl)
    (case k__law_game => first | k_is | rfl | kernel_rfl)
    (case a__law_mark => first | k_is | rfl | kernel_rfl)
    (case l__law_mark => first | k_is | rfl | kernel_rfl)
    (case q__law_mark => first | k_is | rfl | kernel_rfl)
    (case k__law_mark => first | k_is | rfl | kernel_rfl)
    (case a__law_mark_at => first | k_is | rfl | kernel_rfl)
    (case l__law_mark_at => first | k_is | rfl | kernel_rfl)
    (case q__law_mark_at => first | k_is | rfl | kernel_rfl)
    (case k__law_mark_at => first | k_is | rfl | kernel_rfl)
    (case a__law_allowed => first | k_is | rfl | kernel_rfl)
    (case l__law_allowed => first | k_is | rfl | kernel_rfl)
    (case q__law_allowed => first | k_is | rfl | kernel_rfl)
    (case k__law_allowed => first | k_is | rfl | kernel_rfl)
    (case a__law_bad => first | k_is | rfl | kernel_rfl)
    (case l__law_bad => first | k_is | rfl | kernel_rfl)
    (case q__law_bad => first | k_is | rfl | kernel_rfl)
    (case k__law_bad => first | k_is | rfl | kernel_rfl)
    (case a__law_is_integer => first | k_is | rfl | kernel_rfl)
    (case l__law_is_integer => first | k_is | rfl | kernel_rfl)
    (case q__law_is_integer => first | k_is | rfl | kernel_rfl)
    (case k__law_is_integer => first | k_is | rfl | kernel_rfl)
    (case a__law_same => first | k_is | rfl | kernel_rfl)
    (case l__law_same => first | k_is | rfl | kernel_rfl)
    (case q__law_same => first | k_is | rfl | kernel_rfl)
    (case k__law_same => first | k_is | rfl | kernel_rfl)
    (case a__law_undo => first | k_is | rfl | kernel_rfl)
    (case l__law_undo => first | k_is | rfl | kernel_rfl)
    (case q__law_undo => first | k_is | rfl | kernel_rfl)
    (case k__law_undo => first | k_is | rfl | kernel_rfl)
    (case a__law_is_undone => first | k_is | rfl | kernel_rfl)
    (case l__law_is_undone => first | k_is | rfl | kernel_rfl)
    (case q__law_is_undone => first | k_is | rfl | kernel_rfl)
    (case k__law_is_undone => first | k_is | rfl | kernel_rfl)
    (case a_mark_of => first | k_is | rfl | kernel_rfl)
    (case l_mark_of => first | k_is | rfl | kernel_rfl)
    (case q_mark_of => first | k_is | rfl | kernel_rfl)
    (case k_mark_of => first | k_is | rfl | kernel_rfl)
    (case a__law_is_told => first | k_is | rfl | kernel_rfl)
    (case l__law_is_told => first | k_is | rfl | kernel_rfl)
    (case q__law_is_told => first | k_is | rfl | kernel_rfl)
    (case k__law_is_told => first | k_is | rfl | kernel_rfl)
    (case a__law_all_undone => first | k_is | rfl | kernel_rfl)
    (case l__law_all_undone => first | k_is | rfl | kernel_rfl)
    (case q__law_all_undone => first | k_is | rfl | kernel_rfl)
    (case k__law_all_undone => first | k_is | rfl | kernel_rfl)
    (case a__law_move => first | k_is | rfl | kernel_rfl)
    (case l__law_move => first | k_is | rfl | kernel_rfl)
    (case q__law_move => first | k_is | rfl | kernel_rfl)
    (case k__law_move => first | k_is | rfl | kernel_rfl)
    (case a__law_apart => first | k_is | rfl | kernel_rfl)
    (case l__law_apart => first | k_is | rfl | kernel_rfl)
    (case q__law_apart => first | k_is | rfl | kernel_rfl)
    (case k__law_apart => first | k_is | rfl | kernel_rfl)
    (case a_law => first | k_is | rfl | kernel_rfl)
    (case l_law => first | k_is | rfl | kernel_rfl)
    (case q_law => first | k_is | rfl | kernel_rfl)
    (case k_law => first | k_is | rfl | kernel_rfl)
    (case z_ValueError => first | k_is | rfl | kernel_rfl)
    (case z_bool => first | k_is | rfl | kernel_rfl)
    (case z_int => first | k_is | rfl | kernel_rfl)
    (case z_isinstance => first | k_is | rfl | kernel_rfl)
    (case z_len => first | k_is | rfl | kernel_rfl)
    (case z_list => first | k_is | rfl | kernel_rfl)
    (case z_range => first | k_is | rfl | kernel_rfl)
    (case z_set => first | k_is | rfl | kernel_rfl)
    (case z_sorted => first | k_is | rfl | kernel_rfl)
    (case z_str => first | k_is | rfl | kernel_rfl)
    (case z_tuple => first | k_is | rfl | kernel_rfl)
    (case rd49 => first | k_is | rfl | kernel_rfl)
    (case gc49 => first | k_is | rfl | kernel_rfl)
    (case cv49_MOST => first | k_is | rfl | kernel_rfl)
    (case cv49_TOP_KIND => first | k_is | rfl | kernel_rfl)
    (case opq => first | k_is | rfl | kernel_rfl)
    (case zsuper => first | k_is | rfl | kernel_rfl)
    (case cgn => first | k_is | rfl | kernel_rfl)
    (case cgt => first | k_is | rfl | kernel_rfl)
    (case rx0 => first | k_is | rfl | kernel_rfl)
    (case ty0 => first | k_is | rfl | kernel_rfl)
    (case xd0 => first | k_is | rfl | kernel_rfl)
    (case ga0 => first | k_is | rfl | kernel_rfl)
    (case gg0 => first | k_is | rfl | kernel_rfl)
    (case xc0 => first | k_is | rfl | kernel_rfl)
    (case xm0 => first | k_is | rfl | kernel_rfl)
    (case rx1 => first | k_is | rfl | kernel_rfl)
    (case ty1 => first | k_is | rfl | kernel_rfl)
    (case xd1 => first | k_is | rfl | kernel_rfl)
    (case kx1 => first | k_is | rfl | kernel_rfl)
    (case xL_x1 => first | k_is | rfl | kernel_rfl)
    (case al_x1 => first | k_is | rfl | kernel_rfl)
    (case sx_x1 => first | k_is | rfl | kernel_rfl)
    (case mv_x1 => first | k_is | rfl | kernel_rfl)
    (case mc_x1 => first | k_is | rfl | kernel_rfl)
    (case nb_x1_at => first | k_is | rfl | kernel_rfl)
    (case a_x1 => first | k_is | rfl | kernel_rfl)
    (case t_x1 => first | k_is | rfl | kernel_rfl)
    (case l_x1 => first | k_is | rfl | kernel_rfl)
    (case q_x1 => first | k_is | rfl | kernel_rfl)
    (case u_x1 => first | k_is | rfl | kernel_rfl)
    (case w_x1 => first | rfl | kernel_rfl)
    (case y_x1 => first | rfl | kernel_rfl)
    (case cl_x1 => first | k_is | rfl | kernel_rfl)
    (case ga1 => first | k_is | rfl | kernel_rfl)
    (case gg1 => first | k_is | rfl | kernel_rfl)
    (case xc1 => first | k_is | rfl | kernel_rfl)
    (case xm1 => first | k_is | rfl | kernel_rfl)
    (case rx2 => first | k_is | rfl | kernel_rfl)
    (case ty2 => first | k_is | rfl | kernel_rfl)
    (case xd2 => first | k_is | rfl | kernel_rfl)
    (case ga2 => first | k_is | rfl | kernel_rfl)
    (case gg2 => first | k_is | rfl | kernel_rfl)
    (case xc2 => first | k_is | rfl | kernel_rfl)
    (case xm2 => first | k_is | rfl | kernel_rfl)
    (case rx5 => first | k_is | rfl | kernel_rfl)
    (case ty5 => first | k_is | rfl | kernel_rfl)
    (case xd5 => first | k_is | rfl | kernel_rfl)
    (case kx5 => first | k_is | rfl | kernel_rfl)
    (case xL_x5 => first | k_is | rfl | kernel_rfl)
    (case al_x5 => first | k_is | rfl | kernel_rfl)
    (case sx_x5 => first | k_is | rfl | kernel_rfl)
    (case mv_x5 => first | k_is | rfl | kernel_rfl)
    (case mc_x5 => first | k_is | rfl | kernel_rfl)
    (case nb_x5_bead => first | k_is | rfl | kernel_rfl)
    (case a_x5 => first | k_is | rfl | kernel_rfl)
    (case t_x5 => first | k_is | rfl | kernel_rfl)
    (case l_x5 => first | k_is | rfl | kernel_rfl)
    (case q_x5 => first | k_is | rfl | kernel_rfl)
    (case u_x5 => first | k_is | rfl | kernel_rfl)
    (case w_x5 => first | rfl | kernel_rfl)
    (case y_x5 => first | rfl | kernel_rfl)
    (case cl_x5 => first | k_is | rfl | kernel_rfl)
    (case ga5 => first | k_is | rfl | kernel_rfl)
    (case gg5 => first | k_is | rfl | kernel_rfl)
    (case xc5 => first | k_is | rfl | kernel_rfl)
    (case xm5 => first | k_is | rfl | kernel_rfl)
    (case nf5_bead => first | k_is | rfl | kernel_rfl)
    (case rx6 => first | k_is | rfl | kernel_rfl)
    (case ty6 => first | k_is | rfl | kernel_rfl)
    (case xd6 => first | k_is | rfl | kernel_rfl)
    (case kx6 => first | k_is | rfl | kernel_rfl)
    (case xL_x6 => first | k_is | rfl | kernel_rfl)
    (case al_x6 => first | k_is | rfl | kernel_rfl)
    (case sx_x6 => first | k_is | rfl | kernel_rfl)
    (case mv_x6 => first | k_is | rfl | kernel_rfl)
    (case mc_x6 => first | k_is | rfl | kernel_rfl)
    (case nb_x6_bead => first | k_is | rfl | kernel_rfl)
    (case a_x6 => first | k_is | rfl | kernel_rfl)
    (case t_x6 => first | k_is | rfl | kernel_rfl)
    (case l_x6 => first | k_is | rfl | kernel_rfl)
    (case q_x6 => first | k_is | rfl | kernel_rfl)
    (case u_x6 => first | k_is | rfl | kernel_rfl)
    (case w_x6 => first | rfl | kernel_rfl)
    (case y_x6 => first | rfl | kernel_rfl)
    (case cl_x6 => first | k_is | rfl | kernel_rfl)
    (case ga6 => first | k_is | rfl | kernel_rfl)
    (case gg6 => first | k_is | rfl | kernel_rfl)
    (case xc6 => first | k_is | rfl | kernel_rfl)
    (case xm6 => first | k_is | rfl | kernel_rfl)
    (case nf6_bead => first | k_is | rfl | kernel_rfl)
    (case rx7 => first | k_is | rfl | kernel_rfl)
    (case ty7 => first | k_is | rfl | kernel_rfl)
    (case xd7 => first | k_is | rfl | kernel_rfl)
    (case kx7 => first | k_is | rfl | kernel_rfl)
    (case xL_x7 => first | k_is | rfl | kernel_rfl)
    (case al_x7 => first | k_is | rfl | kernel_rfl)
    (case sx_x7 => first | k_is | rfl | kernel_rfl)
    (case mv_x7 => first | k_is | rfl | kernel_rfl)
    (case mc_x7 => first | k_is | rfl | kernel_rfl)
    (case nb_x7_bead => first | k_is | rfl | kernel_rfl)
    (case a_x7 => first | k_is | rfl | kernel_rfl)
    (case t_x7 => first | k_is | rfl | kernel_rfl)
    (case l_x7 => first | k_is | rfl | kernel_rfl)
    (case q_x7 => first | k_is | rfl | kernel_rfl)
    (case u_x7 => first | k_is | rfl | kernel_rfl)
    (case w_x7 => first | rfl | kernel_rfl)
    (case y_x7 => first | rfl | kernel_rfl)
    (case cl_x7 => first | k_is | rfl | kernel_rfl)
    (case ga7 => first | k_is | rfl | kernel_rfl)
    (case gg7 => first | k_is | rfl | kernel_rfl)
    (case xc7 => first | k_is | rfl | kernel_rfl)
    (case xm7 => first | k_is | rfl | kernel_rfl)
    (case nf7_bead => first | k_is | rfl | kernel_rfl)
    (case rx9 => first | k_is | rfl | kernel_rfl)
    (case ty9 => first | k_is | rfl | kernel_rfl)
    (case xd9 => first | k_is | rfl | kernel_rfl)
    (case ga9 => first | k_is | rfl | kernel_rfl)
    (case gg9 => first | k_is | rfl | kernel_rfl)
    (case xc9 => first | k_is | rfl | kernel_rfl)
    (case xm9 => first | k_is | rfl | kernel_rfl)
    (case rx10 => first | k_is | rfl | kernel_rfl)
    (case ty10 => first | k_is | rfl | kernel_rfl)
    (case xd10 => first | k_is | rfl | kernel_rfl)
    (case kx10 => first | k_is | rfl | kernel_rfl)
    (case ei10 => first | k_is | rfl | kernel_rfl)
    (case ga10 => first | k_is | rfl | kernel_rfl)
    (case gg10 => first | k_is | rfl | kernel_rfl)
    (case xc10 => first | k_is | rfl | kernel_rfl)
    (case xm10 => first | k_is | rfl | kernel_rfl)
    (case rx38 => first | k_is | rfl | kernel_rfl)
    (case ty38 => first | k_is | rfl | kernel_rfl)
    (case xd38 => first | k_is | rfl | kernel_rfl)
    (case kx38 => first | k_is | rfl | kernel_rfl)
    (case xL_x38 => first | k_is | rfl | kernel_rfl)
    (case al_x38 => first | k_is | rfl | kernel_rfl)
    (case sx_x38 => first | k_is | rfl | kernel_rfl)
    (case mv_x38 => first | k_is | rfl | kernel_rfl)
    (case mc_x38 => first | k_is | rfl | kernel_rfl)
    (case nb_x38_bead => first | k_is | rfl | kernel_rfl)
    (case a_x38 => first | k_is | rfl | kernel_rfl)
    (case t_x38 => first | k_is | rfl | kernel_rfl)
    (case l_x38 => first | k_is | rfl | kernel_rfl)
    (case q_x38 => first | k_is | rfl | kernel_rfl)
    (case u_x38 => first | k_is | rfl | kernel_rfl)
    (case w_x38 => first | rfl | kernel_rfl)
    (case y_x38 => first | rfl | kernel_rfl)
    (case cl_x38 => first | k_is | rfl | kernel_rfl)
    (case ga38 => first | k_is | rfl | kernel_rfl)
    (case gg38 => first | k_is | rfl | kernel_rfl)
    (case xc38 => first | k_is | rfl | kernel_rfl)
    (case xm38 => first | k_is | rfl | kernel_rfl)
    (case nf38_bead => first | k_is | rfl | kernel_rfl)
    (case sb0_5 => first | k_is | rfl | kernel_rfl)
    (case sb0_6 => first | k_is | rfl | kernel_rfl)
    (case sb0_7 => first | k_is | rfl | kernel_rfl)
    (case sb0_10 => first | k_is | rfl | kernel_rfl)
    (case sb0_38 => first | k_is | rfl | kernel_rfl)
    (case sb1_5 => first | k_is | rfl | kernel_rfl)
    (case sb1_6 => first | k_is | rfl | kernel_rfl)
    (case sb1_7 => first | k_is | rfl | kernel_rfl)
    (case sb1_10 => first | k_is | rfl | kernel_rfl)
    (case sb1_38 => first | k_is | rfl | kernel_rfl)
    (case sb2_5 => first | k_is | rfl | kernel_rfl)
    (case sb2_6 => first | k_is | rfl | kernel_rfl)
    (case sb2_7 => first | k_is | rfl | kernel_rfl)
    (case sb2_10 => first | k_is | rfl | kernel_rfl)
    (case sb2_38 => first | k_is | rfl | kernel_rfl)
    (case sb5_5 => first | k_is | rfl | kernel_rfl)
    (case sb5_6 => first | k_is | rfl | kernel_rfl)
    (case sb5_7 => first | k_is | rfl | kernel_rfl)
    (case sb5_10 => first | k_is | rfl | kernel_rfl)
    (case sb5_38 => first | k_is | rfl | kernel_rfl)
    (case sb6_5 => first | k_is | rfl | kernel_rfl)
    (case sb6_6 => first | k_is | rfl | kernel_rfl)
    (case sb6_7 => first | k_is | rfl | kernel_rfl)
    (case sb6_10 => first | k_is | rfl | kernel_rfl)
    (case sb6_38 => first | k_is | rfl | kernel_rfl)
    (case sb7_5 => first | k_is | rfl | kernel_rfl)
    (case sb7_6 => first | k_is | rfl | kernel_rfl)
    (case sb7_7 => first | k_is | rfl | kernel_rfl)
    (case sb7_10 => first | k_is | rfl | kernel_rfl)
    (case sb7_38 => first | k_is | rfl | kernel_rfl)
    (case sb9_5 => first | k_is | rfl | kernel_rfl)
    (case sb9_6 => first | k_is | rfl | kernel_rfl)
    (case sb9_7 => first | k_is | rfl | kernel_rfl)
    (case sb9_10 => first | k_is | rfl | kernel_rfl)
    (case sb9_38 => first | k_is | rfl | kernel_rfl)
    (case sb10_5 => first | k_is | rfl | kernel_rfl)
    (case sb10_6 => first | k_is | rfl | kernel_rfl)
    (case sb10_7 => first | k_is | rfl | kernel_rfl)
    (case sb10_10 => first | k_is | rfl | kernel_rfl)
    (case sb10_38 => first | k_is | rfl | kernel_rfl)
    (case sb38_5 => first | k_is | rfl | kernel_rfl)
    (case sb38_6 => first | k_is | rfl | kernel_rfl)
    (case sb38_7 => first | k_is | rfl | kernel_rfl)
    (case sb38_10 => first | k_is | rfl | kernel_rfl)
    (case sb38_38 => first | k_is | rfl | kernel_rfl)
    (case is5_MootError => first | k_is | rfl | kernel_rfl)
    (case is5_ValueError => first | k_is | rfl | kernel_rfl)
    (case is6_MootError => first | k_is | rfl | kernel_rfl)
    (case is6_ValueError => first | k_is | rfl | kernel_rfl)
    (case is7_MootError => first | k_is | rfl | kernel_rfl)
    (case is7_QuietMove => first | k_is | rfl | kernel_rfl)
    (case is10_MootError => first | k_is | rfl | kernel_rfl)
    (case is10_ValueError => first | k_is | rfl | kernel_rfl)
    (case is38_MootError => first | k_is | rfl | kernel_rfl)
    (case is38_ValueError => first | k_is | rfl | kernel_rfl)
    all_goals first | exact PySem.Value.none | exact Option.none | exact #[] | exact []
