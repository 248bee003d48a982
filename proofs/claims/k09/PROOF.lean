import PyProof.Rows.All
import Wide.All
import OpenK.AllK
import Wide.FinOn
import HandS.ForMost
import HandS.ForExc
import HandS.ExcInit
import HandS.HeadHook2
import HandS.CallSlots
import HandS.ExcOwn
import HandS.ExcIs
import HandS.ExcField
import HandS.TryOnly
import HandS.Lambda
import HandS.Property
import HandS.ClsMeth
import KE.KExcIs
import KE.KOpsOwn
import HandS.WideBits
import HandS.Steps
import HandS.Deep
import HandS.SlotsOwn
import PyProof.InstEq
import HandS.TupAny
import HandS.Text
import KE.KFmtOwn
import PyProof.Conv_bool
import HandS.More
import HandS.Words
import HandS.Style
import HandS.RaiseMore
import HandS.Comp
import HandS.Iter
import HandS.FStr
import PyProof.FString5
import PyProof.StrOps2
import KE.KSuper
import OpenK.KWalk
import HandS.Head2
import HandS.HeadEnd
import HandS.HeadHook3
import HandS.HeadHook4
import HandS.EndTab
import PyProof.StrLawsRepr
import PySem.Challenge.RW_zerowalks_k09_zeros_in_order
set_option Elab.async false
set_option linter.all false
set_option maxRecDepth 100000
set_option maxHeartbeats 4000000
namespace Zw
open PySem L2 PyProof.Rows

/-! ### data -/
inductive Dat where
  | non | bl (b : Bool) | int (i : Int) | str (x : Str) | ty (n : String)
  | tup (ds : List Dat) | lst (ds : List Dat) | dic (kvs : List (Dat × Dat))
  | ins (c : Str) (fs : List (Str × Dat))
  | exc (c : Str) (fs : List (Str × Dat))
  | cls (c : Str) | fn (f : Str)
  | loc (n : Nat)
  | tab (p : Str × Option Str) (q : Str)
instance : Inhabited Dat := ⟨.non⟩

/-- what a def gives: by data -/
inductive Res where
  | ret (d : Dat) (cs : List (Option Dat))
  | exc (x : Dat) (cs : List (Option Dat))
  | stuck
/-- what a lambda without parameters gives -/
abbrev LCon := List (Option Dat) → Res
/-- a slot of a frame: without a value; a value that is not changed; a container (or self in an __init__) that this frame alone holds; a lambda that was handed in -/
inductive Slot where
  | unset | val (d : Dat) | own (d : Dat) | slf (d : Dat) | lam (c : LCon)
instance : Inhabited Slot := ⟨.unset⟩

/-- the state of a run: the frame's slots, the cells that are shared -/
structure Sto where
  env : List Slot
  cs : List (Option Dat)

inductive Out (α : Type) where
  | ret (a : α) (s : Sto)
  | exc (x : Dat) (s : Sto)
  | stuck
abbrev M (α : Type) := Sto → Out α
def pur {α : Type} (a : α) : M α := fun s => .ret a s
def fail {α : Type} : M α := fun _ => .stuck
def Out.bnd {α β : Type} (o : Out α) (f : α → M β) : Out β := match o with
  | .ret a s => f a s
  | .exc x s => .exc x s
  | .stuck => .stuck
def bnd {α β : Type} (m : M α) (f : α → M β) : M β := fun s => (m s).bnd f

/-! ### data in a heap -/
def keyD : Key → Dat
  | .inl i => .int i
  | .inr x => .str x
/-- an exception's object -/
def exT (e C : Addr) (d : Option Addr) : HO := .ext fun h => ∃ o vs, h.get? e = some o ∧ o.cls = .ref C ∧ o.dict = d ∧ o.data = .fields vs

/-- a def's address: behind a property, a static or class method its function -/
def adP (p : Str × Option Str) (K : PySem.W.Frag) : Addr := match K.lookup (He.fAd K p) with
  | some ⟨.type _, _, .fields vs, _⟩ => (match vs.toList with
    | .ref g :: _ => g
    | _ => He.fAd K p)
  | _ => He.fAd K p
/-- its code object, the table of the code objects that it made -/
def codeP (p : Str × Option Str) (K : PySem.W.Frag) : Addr := match K.lookup (adP p K) with
  | some ⟨_, _, .func fd, _⟩ => (match fd.code with
    | .ref c => c
    | _ => 0)
  | _ => 0
def tabP (p : Str × Option Str) (K : PySem.W.Frag) : Addr := match K.lookup (codeP p K) with
  | some ⟨_, _, .fields vs, _⟩ => (match (vs[11]? : Option Value) with
    | some (.ref P) => P
    | _ => 0)
  | _ => 0
/-- a table: each code object that it tells bears the name q -/
def TabC (K : PySem.W.Frag) (P H : Hp) (a : Addr) (p : Str × Option Str) (q : Str) : Prop := a = tabP p K ∧ ∃ ps : Array Value, H a = some (.tbl ps) ∧ TriplesOk ps.toList ∧ ∀ (pos : Pos) (cv : Value), codeAmong pos ps.toList = some cv → ∃ c, cv = .ref c ∧ P c = some (LamX.CodeO c q)

section
variable (K : PySem.W.Frag) (P : Hp) (io : List Addr)
mutual
inductive Rep : V → Dat → Prop where
  | non : Rep .non .non
  | bl (b : Bool) : Rep (.bl b) (.bl b)
  | int (i : Int) : Rep (.int i) (.int i)
  | str (x : Str) : Rep (.str x) (.str x)
  | ty (n : String) : Rep (.ty n) (.ty n)
  | tup {a : Addr} {vs : List V} {ds : List Dat} (h : SqT K P a vs) (r : Reps vs ds) : Rep (.ref a) (.tup ds)
  | lst {a : Addr} {vs : List V} {ds : List Dat} (h : SqL K P a vs) (r : Reps vs ds) : Rep (.ref a) (.lst ds)
  | dicK {a : Addr} {kvs : List (Key × V)} {ds : List (Dat × Dat)} (h : P a = some (.dK kvs)) (k : ds.map (·.1) = kvs.map fun p => keyD p.1) (r : Reps (kvs.map (·.2)) (ds.map (·.2))) : Rep (.ref a) (.dic ds)
  | dicT {a : Addr} {kvs : List (List Key × V)} {ds : List (Dat × Dat)} (h : P a = some (.dT kvs)) (k : ds.map (·.1) = kvs.map fun p => Dat.tup (p.1.map keyD)) (r : Reps (kvs.map (·.2)) (ds.map (·.2))) : Rep (.ref a) (.dic ds)
  | ins {a dx : Addr} {c : Str} {fs : List (Str × V)} {ds : List (Str × Dat)} (h : P a = some (.ins (He.ga K c) dx fs)) (k : ds.map (·.1) = fs.map (·.1)) (r : Reps (fs.map (·.2)) (ds.map (·.2))) : Rep (.ref a) (.ins c ds)
  | exc0 {a : Addr} {c : Str} (h : P a = some (exT a (He.ga K c) none)) : Rep (.ref a) (.exc c [])
  | exc1 {a dx : Addr} {c : Str} {fs : List (Str × V)} {ds : List (Str × Dat)} (h : P a = some (exT a (He.ga K c) (some dx))) (hd : P dx = some (.xd fs)) (k : ds.map (·.1) = fs.map (·.1)) (r : Reps (fs.map (·.2)) (ds.map (·.2))) : Rep (.ref a) (.exc c ds)
  | cls (c : Str) : Rep (.ref (He.ga K c)) (.cls c)
  | fn (f : Str) : Rep (.ref (He.ga K f)) (.fn f)
  | loc {a : Addr} {n : Nat} (h : io[n]? = some a) : Rep (.ref a) (.loc n)
  | tab {a : Addr} {p : Str × Option Str} {q : Str} : Rep (.ref a) (.tab p q)
inductive Reps : List V → List Dat → Prop where
  | nil : Reps [] []
  | cons {v : V} {d : Dat} {vs : List V} {ds : List Dat} (r : Rep v d) (t : Reps vs ds) : Reps (v :: vs) (d :: ds)
end
end

theorem Reps.length {K : PySem.W.Frag} {P : Hp} {io : List Addr} : ∀ {vs : List V} {ds : List Dat}, Reps K P io vs ds → vs.length = ds.length
  | _, _, .nil => rfl
  | _, _, .cons _ t => congrArg Nat.succ t.length

/-- what P holds H holds (a dict may be locked) -/
def lockable : HO → Bool
  | .dK _ => true
  | .dT _ => true
  | _ => false
def Sub (P H : Hp) : Prop := ∀ a u, P a = some u → H a = some u ∨ (lockable u = true ∧ ∃ o, H a = some (.frz o u))
def Le (P P' : Hp) : Prop := ∀ a u, P a = some u → P' a = some u
theorem Le.refl (P : Hp) : Le P P := fun _ _ h => h
theorem Le.trans {P P1 P2 : Hp} (a : Le P P1) (b : Le P1 P2) : Le P P2 := fun x u h => b x u (a x u h)
theorem Le.new {P : Hp} {a : Addr} {o : HO} (h : P a = none) : Le P (upd P a o) := fun b u e => by
  rw [upd_ne (ne_of_none e h)]; exact e
theorem Le.rd {P P' : Hp} (l : Le P P') {a : Addr} {u : HO} (h : Rd P a u) : Rd P' a u := by
  rcases h with h | ⟨o, h⟩
  · exact .inl (l _ _ h)
  · exact .inr ⟨o, l _ _ h⟩
theorem Le.sqL {K : PySem.W.Frag} {P P' : Hp} (l : Le P P') {a : Addr} {xs : List V} (h : SqL K P a xs) : SqL K P' a xs := by
  rcases h with h | h
  · exact .inl (l.rd h)
  · exact .inr h
theorem Le.sqT {K : PySem.W.Frag} {P P' : Hp} (l : Le P P') {a : Addr} {xs : List V} (h : SqT K P a xs) : SqT K P' a xs := by
  rcases h with h | h
  · exact .inl (l.rd h)
  · exact .inr h
theorem Sub.rd {P H : Hp} (l : Sub P H) {a : Addr} {u : HO} (h : Rd P a u) (nl : lockable u = false) : Rd H a u := by
  rcases h with h | ⟨o, h⟩
  · rcases l _ _ h with q | ⟨q, _⟩
    · exact .inl q
    · rw [nl] at q; cases q
  · rcases l _ _ h with q | ⟨q, _⟩
    · exact .inr ⟨o, q⟩
    · cases q
theorem Sub.sqL {K : PySem.W.Frag} {P H : Hp} (l : Sub P H) {a : Addr} {xs : List V} (h : SqL K P a xs) : SqL K H a xs := by
  rcases h with h | h
  · exact .inl (l.rd h rfl)
  · exact .inr h
theorem Sub.sqT {K : PySem.W.Frag} {P H : Hp} (l : Sub P H) {a : Addr} {xs : List V} (h : SqT K P a xs) : SqT K H a xs := by
  rcases h with h | h
  · exact .inl (l.rd h rfl)
  · exact .inr h
theorem Sub.at_ {P H : Hp} (l : Sub P H) {a : Addr} {u : HO} (h : P a = some u) (nl : lockable u = false) : H a = some u := by
  rcases l _ _ h with q | ⟨q, _⟩
  · exact q
  · rw [nl] at q; cases q

mutual
theorem Rep.mono {K : PySem.W.Frag} {P P' : Hp} {io io' : List Addr} (l : Le P P') (m : io <+: io') : ∀ {v : V} {d : Dat}, Rep K P io v d → Rep K P' io' v d
  | _, _, .non => .non
  | _, _, .bl b => .bl b
  | _, _, .int i => .int i
  | _, _, .str x => .str x
  | _, _, .ty n => .ty n
  | _, _, .tup h r => .tup (l.sqT h) (Reps.mono l m r)
  | _, _, .lst h r => .lst (l.sqL h) (Reps.mono l m r)
  | _, _, .dicK h k r => .dicK (l _ _ h) k (Reps.mono l m r)
  | _, _, .dicT h k r => .dicT (l _ _ h) k (Reps.mono l m r)
  | _, _, .ins h k r => .ins (l _ _ h) k (Reps.mono l m r)
  | _, _, .exc0 h => .exc0 (l _ _ h)
  | _, _, .exc1 h hd k r => .exc1 (l _ _ h) (l _ _ hd) k (Reps.mono l m r)
  | _, _, .cls c => .cls c
  | _, _, .fn f => .fn f
  | _, _, .loc h => .loc (by
    obtain ⟨t, rfl⟩ := m
    rw [List.getElem?_append_left (List.getElem?_eq_some_iff.mp h).1]; exact h)
  | _, _, .tab => .tab
theorem Reps.mono {K : PySem.W.Frag} {P P' : Hp} {io io' : List Addr} (l : Le P P') (m : io <+: io') : ∀ {vs : List V} {ds : List Dat}, Reps K P io vs ds → Reps K P' io' vs ds
  | _, _, .nil => .nil
  | _, _, .cons r t => .cons (Rep.mono l m r) (Reps.mono l m t)
end
theorem Reps.get {K : PySem.W.Frag} {P : Hp} {io : List Addr} : ∀ {vs : List V} {ds : List Dat} {i : Nat} {d : Dat}, Reps K P io vs ds → ds[i]? = some d → ∃ v, vs[i]? = some v ∧ Rep K P io v d
  | _, _, _, _, .nil, e => by simp at e
  | _, _, 0, _, .cons r _, e => by simp at e; subst e; exact ⟨_, rfl, r⟩
  | _, _, i + 1, d, .cons _ t, e => by
    obtain ⟨u, h1, h2⟩ := Reps.get (i := i) (d := d) t (by simpa using e)
    exact ⟨u, by simpa using h1, h2⟩
theorem Reps.getV {K : PySem.W.Frag} {P : Hp} {io : List Addr} : ∀ {vs : List V} {ds : List Dat} {i : Nat} {v : V}, Reps K P io vs ds → vs[i]? = some v → ∃ d, ds[i]? = some d ∧ Rep K P io v d
  | _, _, _, _, .nil, e => by simp at e
  | _, _, 0, _, .cons r _, e => by simp at e; subst e; exact ⟨_, rfl, r⟩
  | _, _, i + 1, v, .cons _ t, e => by
    obtain ⟨u, h1, h2⟩ := Reps.getV (i := i) (v := v) t (by simpa using e)
    exact ⟨u, by simpa using h1, h2⟩
theorem Reps.append {K : PySem.W.Frag} {P : Hp} {io : List Addr} : ∀ {vs ws : List V} {ds es : List Dat}, Reps K P io vs ds → Reps K P io ws es → Reps K P io (vs ++ ws) (ds ++ es)
  | _, _, _, _, .nil, s => s
  | _, _, _, _, .cons r t, s => .cons r (Reps.append t s)

/-! ### the ghost: what never changes (P), where the shared cells stand (io) -/
structure Gh where
  P : Hp
  io : List Addr
abbrev RepG (K : PySem.W.Frag) (g : Gh) := Rep K g.P g.io
abbrev RepsG (K : PySem.W.Frag) (g : Gh) := Reps K g.P g.io
/-- what stands at a cell's address -/
def CellOk (K : PySem.W.Frag) (g : Gh) (H : Hp) (a : Addr) : Dat → Prop
  | .lst ds => ∃ vs, H a = some (.lst vs) ∧ RepsG K g vs ds
  | .dic ds => (∃ kvs, H a = some (.dK kvs) ∧ (ds.map (·.1) = kvs.map fun p => keyD p.1) ∧ RepsG K g (kvs.map (·.2)) (ds.map (·.2))) ∨
      ∃ kvs, H a = some (.dT kvs) ∧ (ds.map (·.1) = kvs.map fun p => Dat.tup (p.1.map keyD)) ∧ RepsG K g (kvs.map (·.2)) (ds.map (·.2))
  | .ins c ds => ∃ dx fs, H a = some (.ins (He.ga K c) dx fs) ∧ ds.map (·.1) = fs.map (·.1) ∧ RepsG K g (fs.map (·.2)) (ds.map (·.2))
  | .tab p q => TabC K g.P H a p q
  | _ => False
structure GLe (g g' : Gh) : Prop where
  p : Le g.P g'.P
  i : g.io <+: g'.io
theorem GLe.refl (g : Gh) : GLe g g := ⟨Le.refl _, List.prefix_refl _⟩
theorem GLe.trans {g g1 g2 : Gh} (a : GLe g g1) (b : GLe g1 g2) : GLe g g2 := ⟨a.p.trans b.p, a.i.trans b.i⟩
theorem GLe.rep {K : PySem.W.Frag} {g g' : Gh} (l : GLe g g') {v : V} {d : Dat} (r : RepG K g v d) : RepG K g' v d := r.mono l.p l.i
theorem GLe.reps {K : PySem.W.Frag} {g g' : Gh} (l : GLe g g') {v : List V} {d : List Dat} (r : RepsG K g v d) : RepsG K g' v d := r.mono l.p l.i
theorem CellOk.mono {K : PySem.W.Frag} {g g' : Gh} {H H' : Hp} {a : Addr} {d : Dat} (l : GLe g g') (e : ∀ o, H a = some o → H' a = some o) (h : CellOk K g H a d) : CellOk K g' H' a d := by
  cases d with
  | lst ds => obtain ⟨vs, h1, h2⟩ := h; exact ⟨vs, e _ h1, l.reps h2⟩
  | dic ds =>
    rcases h with ⟨kvs, h1, h2, h3⟩ | ⟨kvs, h1, h2, h3⟩
    · exact .inl ⟨kvs, e _ h1, h2, l.reps h3⟩
    · exact .inr ⟨kvs, e _ h1, h2, l.reps h3⟩
  | ins c ds => obtain ⟨dx, fs, h1, h2, h3⟩ := h; exact ⟨dx, fs, e _ h1, h2, l.reps h3⟩
  | tab p q =>
    obtain ⟨h0, ps, h1, h2, h3⟩ := h
    exact ⟨h0, ps, e _ h1, h2, fun pos cv hc => let ⟨c, k1, k2⟩ := h3 pos cv hc; ⟨c, k1, l.p _ _ k2⟩⟩
  | _ => exact h
theorem CellOk.there {K : PySem.W.Frag} {g : Gh} {H : Hp} {a : Addr} {d : Dat} (h : CellOk K g H a d) : ∃ o, H a = some o := by
  cases d with
  | lst ds => obtain ⟨vs, h1, h2⟩ := h; exact ⟨_, h1⟩
  | dic ds =>
    rcases h with ⟨kvs, h1, h2, h3⟩ | ⟨kvs, h1, h2, h3⟩
    · exact ⟨_, h1⟩
    · exact ⟨_, h1⟩
  | ins c ds => obtain ⟨dx, fs, h1, h2, h3⟩ := h; exact ⟨_, h1⟩
  | tab p q => obtain ⟨h0, ps, h1, h2, h3⟩ := h; exact ⟨_, h1⟩
  | _ => exact h.elim
/-- a cell is frozen: its address goes into P -/
theorem CellOk.freeze {K : PySem.W.Frag} {g : Gh} {H : Hp} {a : Addr} {d : Dat} (h : CellOk K g H a d) (n : g.P a = none) : ∃ o, H a = some o ∧ RepG K ⟨upd g.P a o, g.io⟩ (.ref a) d := by
  have l : Le g.P (upd g.P a (.lst [])) := Le.new n
  cases d with
  | lst ds => obtain ⟨vs, h1, h2⟩ := h; exact ⟨_, h1, .lst (.inl (.inl upd_same)) (h2.mono (Le.new n) (List.prefix_refl _))⟩
  | dic ds =>
    rcases h with ⟨kvs, h1, h2, h3⟩ | ⟨kvs, h1, h2, h3⟩
    · exact ⟨_, h1, .dicK upd_same h2 (h3.mono (Le.new n) (List.prefix_refl _))⟩
    · exact ⟨_, h1, .dicT upd_same h2 (h3.mono (Le.new n) (List.prefix_refl _))⟩
  | ins c ds => obtain ⟨dx, fs, h1, h2, h3⟩ := h; exact ⟨_, h1, .ins upd_same h2 (h3.mono (Le.new n) (List.prefix_refl _))⟩
  | tab p q => obtain ⟨h0, ps, h1, h2, h3⟩ := h; exact ⟨_, h1, .tab⟩
  | _ => exact h.elim

/-- the ghost and the cells in a heap -/
structure GRel (K : PySem.W.Frag) (g : Gh) (cs : List (Option Dat)) (H : Hp) : Prop where
  sub : Sub g.P H
  len : g.io.length = cs.length
  nd : g.io.Nodup
  dom : ∀ a, a ∈ g.io → ∃ o, H a = some o
  cell : ∀ (n : Nat) (d : Dat) (a : Addr), cs[n]? = some (some d) → g.io[n]? = some a → g.P a = none ∧ CellOk K g H a d
/-- live cells -/
def Live (g : Gh) (cs : List (Option Dat)) (a : Addr) : Prop := ∃ (n : Nat) (d : Dat), cs[n]? = some (some d) ∧ g.io[n]? = some a
/-- what stood stands, but the live cells (and x) -/
structure EK (x : List Addr) (g : Gh) (cs : List (Option Dat)) (H : Hp) (g' : Gh) (cs' : List (Option Dat)) (H' : Hp) : Prop where
  le : GLe g g'
  keep : ∀ a o, H a = some o → ¬ Live g cs a → a ∉ x → H' a = some o
  there : ∀ a o, H a = some o → ∃ o', H' a = some o'
  new : ∀ a, a ∈ g'.io → a ∈ g.io ∨ H a = none
  live : ∀ a, Live g' cs' a → Live g cs a ∨ H a = none
theorem EK.refl {x : List Addr} (g : Gh) (cs : List (Option Dat)) (H : Hp) : EK x g cs H g cs H := ⟨GLe.refl _, fun _ _ h _ _ => h, fun _ o h => ⟨o, h⟩, fun _ h => .inl h, fun _ h => .inl h⟩
theorem EK.free {x : List Addr} {g g' : Gh} {cs cs' : List (Option Dat)} {H H' : Hp} (e : EK x g cs H g' cs' H') {a : Addr} (h : H' a = none) : H a = none := by
  cases q : H a with
  | none => rfl
  | some o =>
    obtain ⟨o', h'⟩ := e.there a o q
    rw [h] at h'; cases h'
theorem EK.trans {x : List Addr} {g g1 g2 : Gh} {cs cs1 cs2 : List (Option Dat)} {H H1 H2 : Hp} (a : EK x g cs H g1 cs1 H1) (b : EK x g1 cs1 H1 g2 cs2 H2) : EK x g cs H g2 cs2 H2 where
  le := a.le.trans b.le
  keep := fun y o h n nx => by
    refine b.keep y o (a.keep y o h n nx) (fun l => ?_) nx
    rcases a.live y l with q | q
    · exact n q
    · rw [h] at q; cases q
  there := fun y o h => by
    obtain ⟨o', h'⟩ := a.there y o h
    exact b.there y o' h'
  new := fun y h => by
    rcases b.new y h with q | q
    · exact a.new y q
    · exact .inr (a.free q)
  live := fun y l => by
    rcases b.live y l with q | q
    · exact a.live y q
    · exact .inr (a.free q)
theorem EK.weak {x : List Addr} {g g' : Gh} {cs cs' : List (Option Dat)} {H H' : Hp} (e : EK [] g cs H g' cs' H') : EK x g cs H g' cs' H' := ⟨e.le, fun a o h n _ => e.keep a o h n (by simp), e.there, e.new, e.live⟩
/-- from a call's entry: besides, P is what it was where something stood -/
structure GExt (x : List Addr) (g : Gh) (cs : List (Option Dat)) (H : Hp) (g' : Gh) (cs' : List (Option Dat)) (H' : Hp) : Prop extends EK x g cs H g' cs' H' where
  pure : ∀ a o, H a = some o → g'.P a = g.P a
theorem GExt.refl {x : List Addr} (g : Gh) (cs : List (Option Dat)) (H : Hp) : GExt x g cs H g cs H := ⟨EK.refl g cs H, fun _ _ _ => rfl⟩
theorem GExt.trans {x : List Addr} {g g1 g2 : Gh} {cs cs1 cs2 : List (Option Dat)} {H H1 H2 : Hp} (a : GExt x g cs H g1 cs1 H1) (b : GExt x g1 cs1 H1 g2 cs2 H2) : GExt x g cs H g2 cs2 H2 :=
  ⟨a.toEK.trans b.toEK, fun y o h => by
    obtain ⟨o', h'⟩ := a.there y o h
    exact (b.pure y o' h').trans (a.pure y o h)⟩
theorem GExt.weak {x : List Addr} {g g' : Gh} {cs cs' : List (Option Dat)} {H H' : Hp} (e : GExt [] g cs H g' cs' H') : GExt x g cs H g' cs' H' := ⟨e.toEK.weak, e.pure⟩

/-- a call's entry -/
structure Ent where
  x : List Addr
  g : Gh
  cs : List (Option Dat)
  H : Hp
  lam : Addr → LCon → Prop
/-- a frame: its slots, the cells, in a heap -/
structure LRel (K : PySem.W.Frag) (t : Ent) (g : Gh) (s : Sto) (σ : L2.St) (H : Hp) : Prop where
  xin : ∀ a ∈ t.x, ∃ o, t.H a = some o
  gr : GRel K g s.cs H
  ex : GExt t.x t.g t.cs t.H g s.cs H
  len : s.env.length = σ.length
  val : ∀ (i : Nat) (d : Dat), s.env[i]? = some (.val d) → ∃ v, σ[i]? = some (some v) ∧ RepG K g v d
  own : ∀ (i : Nat) (d : Dat), s.env[i]? = some (.own d) → ∃ a, σ[i]? = some (some (.ref a)) ∧ CellOk K g H a d ∧ g.P a = none ∧ t.H a = none ∧ ¬ a ∈ g.io
  slf : ∀ (i : Nat) (d : Dat), s.env[i]? = some (.slf d) → ∃ a, σ[i]? = some (some (.ref a)) ∧ CellOk K g H a d ∧ g.P a = none ∧ (a ∈ t.x ∧ ∃ o, t.H a = some o) ∧ ¬ a ∈ g.io
  dst : ∀ (i j : Nat) (a : Addr) (d e : Dat), s.env[i]? = some (.own d) → s.env[j]? = some (.own e) → σ[i]? = some (some (.ref a)) → σ[j]? = some (some (.ref a)) → i = j
  one : ∀ (i j : Nat) (d e : Dat), s.env[i]? = some (.slf d) → s.env[j]? = some (.slf e) → i = j
  lam : ∀ (i : Nat) (c : LCon), s.env[i]? = some (.lam c) → ∃ f, σ[i]? = some (some (.ref f)) ∧ t.lam f c

/-- an exception as it flies -/
def XRep (K : PySem.W.Frag) (g : Gh) (cls : Value) (dd : Option Addr) (x : Dat) : Prop :=
  ∃ (c : Str) (fs : List (Str × Dat)), x = .exc c fs ∧ cls = .ref (He.ga K c) ∧ ((dd = none ∧ fs = []) ∨
    ∃ dx fv, dd = some dx ∧ g.P dx = some (.xd fv) ∧ fs.map (·.1) = fv.map (·.1) ∧ RepsG K g (fv.map (·.2)) (fs.map (·.2)))

/-! ### judgements -/
/-- what is wanted of a run from a state -/
def atG {α β : Type} (K : PySem.W.Frag) (t : Ent) (W : WX) (R : Gh → β → α → Prop) (g : Gh) (s : Sto) (σ : L2.St) (H : Hp) (o : Out α) (Q : β → Hp → Prop) : Prop := match o with
  | .ret d s' => ∀ g' v H', EK [] g s.cs H g' s'.cs H' → LRel K t g' s' σ H' → R g' v d → Q v H'
  | .exc x s' => ∀ g' H' cls dd, EK [] g s.cs H g' s'.cs H' → LRel K t g' s' σ H' → XRep K g' cls dd x → W cls dd σ H'
  | .stuck => False
def rdG {α β : Type} (K : PySem.W.Frag) (t : Ent) (W : WX) (R : Gh → β → α → Prop) (m : M α) : L2.St → Hp → (β → Hp → Prop) → Prop := fun σ H Q => ∃ g s, LRel K t g s σ H ∧ atG K t W R g s σ H (m s) Q
abbrev atE (K : PySem.W.Frag) (t : Ent) (W : WX) := atG (α := Dat) (β := V) K t W (RepG K)
abbrev atT (K : PySem.W.Frag) (t : Ent) (W : WX) := atG (α := Bool) (β := Bool) K t W (fun _ b d => b = d)
abbrev atA (K : PySem.W.Frag) (t : Ent) (W : WX) := atG (α := List Dat) (β := List V) K t W (RepsG K)
abbrev rdE (K : PySem.W.Frag) (t : Ent) (W : WX) (m : M Dat) : TE := rdG K t W (RepG K) m
abbrev rdT (K : PySem.W.Frag) (t : Ent) (W : WX) (m : M Bool) : TT := rdG K t W (fun _ b d => b = d) m
abbrev rdA (K : PySem.W.Frag) (t : Ent) (W : WX) (m : M (List Dat)) : TA := rdG K t W (RepsG K) m
/-- the first part runs, the second goes on from there -/
theorem at_seq {α β γ δ : Type} {K : PySem.W.Frag} {t : Ent} {W : WX} {R : Gh → β → α → Prop} {R' : Gh → δ → γ → Prop} {g : Gh} {s : Sto} {σ : L2.St} {H : Hp} {m : M α} {f : α → M γ} {Q : δ → Hp → Prop} {Q1 : β → Hp → Prop}
    (h : atG K t W R' g s σ H (bnd m f s) Q)
    (k : ∀ d g1 s1 v H1, EK [] g s.cs H g1 s1.cs H1 → LRel K t g1 s1 σ H1 → R g1 v d → atG K t W R' g1 s1 σ H1 (f d s1) Q → Q1 v H1) : atG K t W R g s σ H (m s) Q1 := by
  unfold bnd at h
  cases e : m s with
  | ret d s1 =>
    rw [e] at h
    intro g1 v H1 e1 L1 r1
    refine k d g1 s1 v H1 e1 L1 r1 ?_
    have h : atG K t W R' g s σ H (f d s1) Q := h
    unfold atG at h ⊢
    cases e2 : f d s1 with
    | ret d2 s2 => rw [e2] at h; exact fun g2 v2 H2 z => h g2 v2 H2 (e1.trans z)
    | exc x s2 => rw [e2] at h; exact fun g2 H2 c dd z => h g2 H2 c dd (e1.trans z)
    | stuck => rw [e2] at h; exact h
  | exc x s1 => rw [e] at h; exact h
  | stuck => rw [e] at h; exact h
theorem rd_seq {α β γ δ : Type} {K : PySem.W.Frag} {t : Ent} {W : WX} {R : Gh → β → α → Prop} {R' : Gh → δ → γ → Prop} {g : Gh} {s : Sto} {σ : L2.St} {H : Hp} {m : M α} {f : α → M γ} {Q : δ → Hp → Prop} {Q1 : β → Hp → Prop} (L : LRel K t g s σ H)
    (h : atG K t W R' g s σ H (bnd m f s) Q)
    (k : ∀ d g1 s1 v H1, EK [] g s.cs H g1 s1.cs H1 → LRel K t g1 s1 σ H1 → R g1 v d → atG K t W R' g1 s1 σ H1 (f d s1) Q → Q1 v H1) : rdG K t W R m σ H Q1 := ⟨g, s, L, at_seq h k⟩
/-- what is wanted of the call of a lambda that was handed in -/
def atL (K : PySem.W.Frag) (W : WX) (g : Gh) (cs : List (Option Dat)) (σ : L2.St) (H : Hp) (r : Res) (Q : VK) : Prop := match r with
  | .ret d cs' => ∀ g' v H', GExt [] g cs H g' cs' H' → GRel K g' cs' H' → RepG K g' v d → Q v H'
  | .exc x cs' => ∀ g' H' cls dd, GExt [] g cs H g' cs' H' → GRel K g' cs' H' → XRep K g' cls dd x → W cls dd σ H'
  | .stuck => False
def Callable (X : Cx) (t : Ent) (f : Addr) (c : LCon) : Prop := ∀ (pn : List (Addr × Obj)) (xe : Value → Shared → Prop) (W : WX), Takes (X.tr pn xe) W → ∀ (pins : List (Addr × Obj)) (sh : Shared) (σ : L2.St) (H : Hp) (Q : VK) (g : Gh) (cs : List (Option Dat)) (pos : Pos),
  Inv (X.tr pn xe) pins σ H sh → GRel X.K g cs H → GLe t.g g → atL X.K W g cs σ H (c cs) Q → wpAny (model X.prog X.w) X.A (callWith pos (.ref f) [] [] []) (EP (X.tr pn xe) pins σ Q) xe sh
/-- what a context takes: exceptions by W; the lambdas of its entry -/
structure TakesE (X : Cx) (t : Ent) (W : WX) : Prop where
  tk : Takes X W
  lam : X.calm = true → X.stack = X.env :: X.outer → ∀ f c, t.lam f c → Callable X t f c
structure GE (X : Cx) (e : Expr) (m : M Dat) : Prop where
  run : ∀ t W, TakesE X t W → PE X e (rdE X.K t W m)
structure GT (X : Cx) (e : Expr) (m : M Bool) : Prop where
  run : ∀ t W, TakesE X t W → PT X e (rdT X.K t W m)
structure GA (X : Cx) (es : List Expr) (m : M (List Dat)) : Prop where
  run : ∀ t W, TakesE X t W → PA X es (rdA X.K t W m)
/-- an operation on values -/
def VOp (X : Cx) (f : List Value → Sem Value) (m : List Dat → M Dat) : Prop := ∀ (t : Ent) (W : WX), TakesE X t W → ∀ (pins : List (Addr × Obj)) (sh : Shared) (σ : L2.St) (H : Hp) (g : Gh) (s : Sto) (xs : List V) (us : List Value) (ds : List Dat) (Q : VK),
  Inv X pins σ H sh → Vals xs us → LRel X.K t g s σ H → RepsG X.K g xs ds → atE X.K t W g s σ H (m ds s) Q → wpAny (model X.prog X.w) X.A (f us) (EP X pins σ Q) X.xe sh

inductive OutS where
  | nx (s : Sto) | rt (d : Dat) (s : Sto) | bk (s : Sto) | ct (s : Sto) | exc (x : Dat) (s : Sto) | stuck
abbrev MS := Sto → OutS
def atS (K : PySem.W.Frag) (t : Ent) (W : WX) (g : Gh) (o : OutS) (D : Ends) : Prop := match o with
  | .nx s' => ∀ g' σ' H', GLe g g' → LRel K t g' s' σ' H' → D.nx σ' H'
  | .bk s' => ∀ g' σ' H', GLe g g' → LRel K t g' s' σ' H' → D.bk σ' H'
  | .ct s' => ∀ g' σ' H', GLe g g' → LRel K t g' s' σ' H' → D.ct σ' H'
  | .rt d s' => ∀ g' σ' v H', GLe g g' → LRel K t g' s' σ' H' → RepG K g' v d → D.rt v H'
  | .exc x s' => ∀ g' σ' H' cls dd, GLe g g' → LRel K t g' s' σ' H' → XRep K g' cls dd x → W cls dd σ' H'
  | .stuck => False
def rdS (K : PySem.W.Frag) (t : Ent) (W : WX) (m : MS) : TS := fun D σ H => ∃ g s, LRel K t g s σ H ∧ atS K t W g (m s) D
structure GS (X : Cx) (st : Stmt) (m : MS) : Prop where
  run : ∀ t W, TakesE X t W → PS X st (rdS X.K t W m)
structure GSs (X : Cx) (st : List Stmt) (m : MS) : Prop where
  run : ∀ t W, TakesE X t W → PSs X st (rdS X.K t W m)

theorem PE.imp {X : Cx} {e : Expr} {t t' : TE} (h : PE X e t) (i : ∀ σ H Q, t' σ H Q → t σ H Q) : PE X e t' := ⟨fun pins s σ H Q I q => h.run pins s σ H Q I (i σ H Q q)⟩
theorem PT.imp {X : Cx} {e : Expr} {t t' : TT} (h : PT X e t) (i : ∀ σ H Q, t' σ H Q → t σ H Q) : PT X e t' := ⟨fun pins s σ H Q I q => h.run pins s σ H Q I (i σ H Q q)⟩
theorem PA.imp {X : Cx} {e : List Expr} {t t' : TA} (h : PA X e t) (i : ∀ σ H Q, t' σ H Q → t σ H Q) : PA X e t' := ⟨fun p pins s σ H Q I q => h.run p pins s σ H Q I (i σ H Q q)⟩
theorem PS.imp {X : Cx} {e : Stmt} {t t' : TS} (h : PS X e t) (i : ∀ D σ H, t' D σ H → t D σ H) : PS X e t' := ⟨fun pins s σ H D I q => h.run pins s σ H D I (i D σ H q)⟩
theorem PSs.imp {X : Cx} {e : List Stmt} {t t' : TS} (h : PSs X e t) (i : ∀ D σ H, t' D σ H → t D σ H) : PSs X e t' := ⟨fun pins s σ H D I q => h.run pins s σ H D I (i D σ H q)⟩
/-! ### room for calls; no repr runs around them -/
structure Room (k : Nat) (A : Around) : Prop where
  rm : L2.Room k A
  gd : A.guards = some []
section
variable {k j : Nat} {A : Around}
theorem Room.mono (r : Room k A) (h : j ≤ k) : Room j A := ⟨r.rm.mono h, r.gd⟩
theorem Room.deeper (r : Room (k + 1) A) (env : Env) : Room k (A.deeper env) := ⟨r.rm.deeper env, r.gd⟩
theorem Room.in1 (r : Room (k + 1) A) : Room k A.in1 := ⟨r.rm.in1, r.gd⟩
theorem make_gd {C : Addr} {us : List Value} {kw : List (Str × Value)} (h : A.guards = some []) : (A.under (.builtin "type.__call__" ⟨.ref C :: us, kw⟩)).guards = some [] := by
  first | exact h | simp [Around.under, Code.guards, Code.isGuard, guardIds, pushGuards, h]
theorem Room.make (r : Room (k + 1) A) (C : Addr) (us : List Value) (kw : List (Str × Value)) : Room k (A.under (.builtin "type.__call__" ⟨.ref C :: us, kw⟩)) := ⟨r.rm.make C us kw, make_gd r.gd⟩
theorem Room.hd (r : Room k A) : A.handled = none := r.rm.hd
theorem Room.un (r : Room k A) : A.units + 16 * k + 200 < cLine := r.rm.un
theorem Room.dp (r : Room k A) : A.depth + 3 * k + 5 < recursionLimit := r.rm.dp
theorem Room.depth (r : Room k A) : A.depth < recursionLimit := r.rm.depth
theorem Room.units (r : Room k A) : A.units + 64 < cLine := r.rm.units
theorem Room.units0 (r : Room k A) : A.units < cLine := r.rm.units0
end
structure FnOk (P : Program) (w : World) (K : PySem.W.Frag) (mg : Str → Option Value) (base : Heap) (CX : CXT) (k : Nat) (f : Addr) (fd : FuncData) (ps : List Str) (sp : Sp) : Prop where
  len : ∀ vs H Q E, sp vs H Q E → vs.length = ps.length
  run : ∀ (A : Around) (outer : List Env) (s : Shared) (H : Hp) (args : Args) (us : List Value) (vs : List V) (Q : VK) (E : XK), Room k A → Env0 P w K mg base A outer s H → BindsTo s fd args (ps.zip us) → Vals vs us → sp vs H Q E → codeAny (model P w) A (.call (.ref f) args) (CR CX outer P w H s Q E) s
section
variable {P : Program} {w : World} {K : PySem.W.Frag} {mg : Str → Option Value} {base : Heap} {CX : CXT} {j k : Nat} {f : Addr} {fd : FuncData} {ps : List Str} {sp sp' : Sp}
theorem FnOk.mono (F : FnOk P w K mg base CX j f fd ps sp) (h : j ≤ k) : FnOk P w K mg base CX k f fd ps sp := ⟨F.len, fun A outer s H args us vs Q E r => F.run A outer s H args us vs Q E (r.mono h)⟩
theorem FnOk.imp (F : FnOk P w K mg base CX k f fd ps sp) (h : ∀ vs H Q E, sp' vs H Q E → sp vs H Q E) : FnOk P w K mg base CX k f fd ps sp' := ⟨fun vs H Q E z => F.len vs H Q E (h _ _ _ _ z), fun A outer s H args us vs Q E r e0 hb rv z => F.run A outer s H args us vs Q E r e0 hb rv (h _ _ _ _ z)⟩
theorem fn_of {name qual : Str} {params : Arguments} {body : List Stmt} {scope : Scope} {dV kV doc pm cdv ct oc : Value} {an od : Option Addr} {osl : Array (Option Value)} {N : List Str} (lk : K.lookup f = some ⟨oc, od, .func (PySem.W.fnOf name qual params body scope dV kV doc pm an cdv ct), osl⟩) (hcd : PySem.W.codeIn K cdv qual = true) (S : FnScope N ps scope)
    (len : ∀ vs H Q E, sp vs H Q E → vs.length = ps.length) (hbody : ∀ (A : Around) (outer : List Env) (s : Shared) (H : Hp) (vs : List V) (Q : VK) (E : XK), Room k (A.deeper (envOfC qual scope s.heap.objs.size f cdv)) → sp vs H Q E → ∃ t, PSs (cxOf CX P w K mg base N qual scope f cdv A outer s H E) body t ∧ t { nx := fun _ H' => Q .non H', rt := Q } (L2.start N vs) H) :
    FnOk P w K mg base CX (k + 1) f (PySem.W.fnOf name qual params body scope dV kV doc pm an cdv ct) ps sp :=
  ⟨len, fun A outer s H args us vs Q E hr e0 hb r hsp => LamX.run_ofS lk hcd S hr.rm e0 hb r (len _ _ _ _ hsp) fun h2 => hbody A outer s H vs Q E ⟨h2, hr.gd⟩ hsp⟩
end
end Zw

namespace Zw
open PySem L2

section
variable {K : PySem.W.Frag} {t : Ent} {W : WX} {g : Gh} {s : Sto} {σ : L2.St} {H : Hp}
/-- a new object that is never changed -/
theorem LRel.laid {a : Addr} {o : HO} (L : LRel K t g s σ H) (n : H a = none) : LRel K t ⟨upd g.P a o, g.io⟩ s σ (upd H a o) ∧ EK [] g s.cs H ⟨upd g.P a o, g.io⟩ s.cs (upd H a o) := by
  have nP : g.P a = none := by
    cases e : g.P a with
    | none => rfl
    | some u =>
      rcases L.gr.sub a u e with q | ⟨_, o', q⟩ <;> (rw [n] at q; cases q)
  have le : GLe g ⟨upd g.P a o, g.io⟩ := ⟨Le.new nP, List.prefix_refl _⟩
  have hk : ∀ b u, H b = some u → (upd H a o) b = some u := fun b u e => by rw [upd_ne (ne_of_none e n)]; exact e
  have hp : ∀ b, (∃ u, H b = some u) → (upd g.P a o) b = g.P b := fun b ⟨u, e⟩ => upd_ne (ne_of_none e n)
  have ek : EK [] g s.cs H ⟨upd g.P a o, g.io⟩ s.cs (upd H a o) := ⟨le, fun b u e _ _ => hk b u e, fun b u e => ⟨u, hk b u e⟩, fun _ h => .inl h, fun _ h => .inl h⟩
  refine ⟨⟨L.xin, ⟨fun b u e => ?_, L.gr.len, L.gr.nd, fun b z => let ⟨u, h⟩ := L.gr.dom b z; ⟨u, hk b u h⟩, fun n' d b e1 e2 => ?_⟩, ⟨L.ex.toEK.trans ek.weak, fun b u e => ?_⟩, L.len, fun i d e => ?_, fun i d e => ?_, fun i d e => ?_, L.dst, L.one, L.lam⟩, ek⟩
  · by_cases h : b = a
    · subst h
      have e : (upd g.P b o) b = some u := e
      rw [upd_same] at e; cases e
      exact .inl upd_same
    · have e' : g.P b = some u := by
        have z : (upd g.P a o) b = some u := e
        rw [upd_ne h] at z; exact z
      rcases L.gr.sub b u e' with q | ⟨q, o', q'⟩
      · exact .inl (hk _ _ q)
      · exact .inr ⟨q, o', hk _ _ q'⟩
  · obtain ⟨p1, p2⟩ := L.gr.cell n' d b e1 e2
    refine ⟨?_, p2.mono le (hk b)⟩
    show (upd g.P a o) b = none
    rw [hp b p2.there]; exact p1
  · show (upd g.P a o) b = t.g.P b
    obtain ⟨u', e'⟩ := L.ex.there b u e
    rw [hp b ⟨_, e'⟩]; exact L.ex.pure b u e
  · obtain ⟨v, h1, h2⟩ := L.val i d e
    exact ⟨v, h1, le.rep h2⟩
  · obtain ⟨b, h1, h2, h3, h4, h5⟩ := L.own i d e
    refine ⟨b, h1, h2.mono le (hk b), ?_, h4, h5⟩
    show (upd g.P a o) b = none
    rw [hp b h2.there]; exact h3
  · obtain ⟨b, h1, h2, h3, h4, h5⟩ := L.slf i d e
    refine ⟨b, h1, h2.mono le (hk b), ?_, h4, h5⟩
    show (upd g.P a o) b = none
    rw [hp b h2.there]; exact h3
/-- an own container is frozen -/
theorem LRel.freeze {i : Nat} {d : Dat} (L : LRel K t g s σ H) (h : s.env[i]? = some (.own d)) : ∃ a g', σ[i]? = some (some (.ref a)) ∧ LRel K t g' ⟨s.env.set i (.val d), s.cs⟩ σ H ∧ EK [] g s.cs H g' s.cs H ∧ RepG K g' (.ref a) d := by
  obtain ⟨a, h1, h2, h3, h4, h5⟩ := L.own i d h
  obtain ⟨o, ho, r⟩ := h2.freeze h3
  have hi : i < s.env.length := (List.getElem?_eq_some_iff.mp h).1
  have le : GLe g ⟨upd g.P a o, g.io⟩ := ⟨Le.new h3, List.prefix_refl _⟩
  have ek : EK [] g s.cs H ⟨upd g.P a o, g.io⟩ s.cs H := ⟨le, fun b u e _ _ => e, fun b u e => ⟨u, e⟩, fun _ h => .inl h, fun _ h => .inl h⟩
  have at_ : ∀ (j : Nat) (x : Slot), (s.env.set i (.val d))[j]? = some x → (j = i ∧ x = .val d) ∨ (j ≠ i ∧ s.env[j]? = some x) := fun j x e => by
    by_cases q : j = i
    · subst q
      rw [List.getElem?_set_self hi] at e; cases e
      exact .inl ⟨rfl, rfl⟩
    · rw [List.getElem?_set_ne (Ne.symm q)] at e
      exact .inr ⟨q, e⟩
  refine ⟨a, ⟨upd g.P a o, g.io⟩, h1, ⟨L.xin, ⟨fun b u e => ?_, L.gr.len, L.gr.nd, L.gr.dom, fun n' d' b e1 e2 => ?_⟩, ⟨L.ex.toEK.trans ek.weak, fun b u e => ?_⟩, ?_, fun j d' e => ?_, fun j d' e => ?_, fun j d' e => ?_, fun j k b d' e' z1 z2 => ?_, fun j k d' e' z1 z2 => ?_, fun j c e => ?_⟩, ek, r⟩
  · by_cases q : b = a
    · subst q
      have e : (upd g.P b o) b = some u := e
      rw [upd_same] at e; cases e
      exact .inl ho
    · have e' : g.P b = some u := by
        have z : (upd g.P a o) b = some u := e
        rw [upd_ne q] at z; exact z
      exact L.gr.sub b u e'
  · obtain ⟨p1, p2⟩ := L.gr.cell n' d' b e1 e2
    have nb : b ≠ a := fun z => h5 (z ▸ List.mem_of_getElem? e2)
    refine ⟨?_, p2.mono le fun _ z => z⟩
    show (upd g.P a o) b = none
    rw [upd_ne nb]; exact p1
  · have nb : b ≠ a := ne_of_none e h4
    show (upd g.P a o) b = t.g.P b
    rw [upd_ne nb]; exact L.ex.pure b u e
  · show (s.env.set i (.val d)).length = _
    rw [List.length_set]; exact L.len
  · rcases at_ j _ e with ⟨rfl, q⟩ | ⟨_, q⟩
    · cases q
      exact ⟨_, h1, r⟩
    · obtain ⟨v, k1, k2⟩ := L.val j d' q
      exact ⟨v, k1, le.rep k2⟩
  · rcases at_ j _ e with ⟨rfl, q⟩ | ⟨ne, q⟩
    · cases q
    · obtain ⟨b, k1, k2, k3, k4, k5⟩ := L.own j d' q
      have nb : b ≠ a := fun z => ne (L.dst j i a d' d q h (z ▸ k1) h1)
      refine ⟨b, k1, k2.mono le fun _ z => z, ?_, k4, k5⟩
      show (upd g.P a o) b = none
      rw [upd_ne nb]; exact k3
  · rcases at_ j _ e with ⟨rfl, q⟩ | ⟨ne, q⟩
    · cases q
    · obtain ⟨b, k1, k2, k3, k4, k5⟩ := L.slf j d' q
      have nb : b ≠ a := fun z => by
        subst z
        obtain ⟨_, o', q'⟩ := k4
        rw [h4] at q'; cases q'
      refine ⟨b, k1, k2.mono le fun _ z => z, ?_, k4, k5⟩
      show (upd g.P a o) b = none
      rw [upd_ne nb]; exact k3
  · rcases at_ j _ z1 with ⟨rfl, q⟩ | ⟨_, q1⟩
    · cases q
    · rcases at_ k _ z2 with ⟨rfl, q⟩ | ⟨_, q2⟩
      · cases q
      · exact L.dst j k b d' e' q1 q2
  · rcases at_ j _ z1 with ⟨rfl, q⟩ | ⟨_, q1⟩
    · cases q
    · rcases at_ k _ z2 with ⟨rfl, q⟩ | ⟨_, q2⟩
      · cases q
      · exact L.one j k d' e' q1 q2
  · rcases at_ j _ e with ⟨rfl, q⟩ | ⟨_, q⟩
    · cases q
    · exact L.lam j c q
end
end Zw

namespace Zw
open PySem L2 PyProof.Rows PySem.Spec

section
variable {X : Cx} {W : WX} {t : Ent} {g : Gh} {s : Sto} {σ : L2.St} {H : Hp} {pins : List (Addr × Obj)} {sh : Shared}
theorem GE.seq {γ δ : Type} {e : Expr} {m : M Dat} (h : GE X e m) (tk : TakesE X t W) {R' : Gh → δ → γ → Prop} {f : Dat → M γ} {Q : δ → Hp → Prop} {Post : Value → Shared → Prop} (I : Inv X pins σ H sh) (L : LRel X.K t g s σ H) (q : atG X.K t W R' g s σ H (bnd m f s) Q)
    (k : ∀ u sh1 v g1 s1 H1 d, Inv X pins σ H1 sh1 → RelV v u → EK [] g s.cs H g1 s1.cs H1 → LRel X.K t g1 s1 σ H1 → RepG X.K g1 v d → atG X.K t W R' g1 s1 σ H1 (f d s1) Q → Post u sh1) : wpAny (model X.prog X.w) X.A (eval e X.env) Post X.xe sh :=
  thn ((h.run t W tk).run pins sh σ H (fun v H1 => ∃ d g1 s1, EK [] g s.cs H g1 s1.cs H1 ∧ LRel X.K t g1 s1 σ H1 ∧ RepG X.K g1 v d ∧ atG X.K t W R' g1 s1 σ H1 (f d s1) Q) I
    (rd_seq L q fun d g1 s1 v H1 ek L1 r q1 => ⟨d, g1, s1, ek, L1, r, q1⟩)) fun u sh1 ⟨v, H1, I1, rv, d, g1, s1, ek, L1, r, q1⟩ => k u sh1 v g1 s1 H1 d I1 rv ek L1 r q1
theorem GT.seq {γ δ : Type} {e : Expr} {m : M Bool} (h : GT X e m) (tk : TakesE X t W) {R' : Gh → δ → γ → Prop} {f : Bool → M γ} {Q : δ → Hp → Prop} {Post : Bool → Shared → Prop} (I : Inv X pins σ H sh) (L : LRel X.K t g s σ H) (q : atG X.K t W R' g s σ H (bnd m f s) Q)
    (k : ∀ b sh1 g1 s1 H1, Inv X pins σ H1 sh1 → EK [] g s.cs H g1 s1.cs H1 → LRel X.K t g1 s1 σ H1 → atG X.K t W R' g1 s1 σ H1 (f b s1) Q → Post b sh1) : wpAny (model X.prog X.w) X.A (isTrue e X.env (eval e X.env)) Post X.xe sh :=
  thn ((h.run t W tk).run pins sh σ H (fun b H1 => ∃ g1 s1, EK [] g s.cs H g1 s1.cs H1 ∧ LRel X.K t g1 s1 σ H1 ∧ atG X.K t W R' g1 s1 σ H1 (f b s1) Q) I
    (rd_seq L q fun d g1 s1 v H1 ek L1 r q1 => by subst r; exact ⟨g1, s1, ek, L1, q1⟩)) fun b sh1 ⟨H1, I1, g1, s1, ek, L1, q1⟩ => k b sh1 g1 s1 H1 I1 ek L1 q1
theorem GA.seq {γ δ : Type} {es : List Expr} {m : M (List Dat)} (h : GA X es m) (tk : TakesE X t W) {R' : Gh → δ → γ → Prop} {f : List Dat → M γ} {Q : δ → Hp → Prop} {Post : List Value → Shared → Prop} (p : Pos) (I : Inv X pins σ H sh) (L : LRel X.K t g s σ H) (q : atG X.K t W R' g s σ H (bnd m f s) Q)
    (k : ∀ us sh1 vs g1 s1 H1 ds, Inv X pins σ H1 sh1 → Vals vs us → EK [] g s.cs H g1 s1.cs H1 → LRel X.K t g1 s1 σ H1 → RepsG X.K g1 vs ds → atG X.K t W R' g1 s1 σ H1 (f ds s1) Q → Post us sh1) : wpAny (model X.prog X.w) X.A (spliced (backTo p (starEach es X.env))) Post X.xe sh :=
  thn ((h.run t W tk).run p pins sh σ H (fun v H1 => ∃ d g1 s1, EK [] g s.cs H g1 s1.cs H1 ∧ LRel X.K t g1 s1 σ H1 ∧ RepsG X.K g1 v d ∧ atG X.K t W R' g1 s1 σ H1 (f d s1) Q) I
    (rd_seq L q fun d g1 s1 v H1 ek L1 r q1 => ⟨d, g1, s1, ek, L1, r, q1⟩)) fun u sh1 ⟨v, H1, I1, rv, d, g1, s1, ek, L1, r, q1⟩ => k u sh1 v g1 s1 H1 d I1 rv ek L1 r q1
theorem VOp.seq {γ δ : Type} {f0 : List Value → Sem Value} {m : List Dat → M Dat} (h : VOp X f0 m) (tk : TakesE X t W) {R' : Gh → δ → γ → Prop} {f : Dat → M γ} {Q : δ → Hp → Prop} {Post : Value → Shared → Prop} {xs : List V} {us : List Value} {ds : List Dat} (I : Inv X pins σ H sh) (rv : Vals xs us) (L : LRel X.K t g s σ H)
    (r : RepsG X.K g xs ds) (q : atG X.K t W R' g s σ H (bnd (m ds) f s) Q)
    (k : ∀ u sh1 v g1 s1 H1 d, Inv X pins σ H1 sh1 → RelV v u → EK [] g s.cs H g1 s1.cs H1 → LRel X.K t g1 s1 σ H1 → RepG X.K g1 v d → atG X.K t W R' g1 s1 σ H1 (f d s1) Q → Post u sh1) : wpAny (model X.prog X.w) X.A (f0 us) Post X.xe sh :=
  thn (h t W tk pins sh σ H g s xs us ds (fun v H1 => ∃ d g1 s1, EK [] g s.cs H g1 s1.cs H1 ∧ LRel X.K t g1 s1 σ H1 ∧ RepG X.K g1 v d ∧ atG X.K t W R' g1 s1 σ H1 (f d s1) Q) I rv L r
    (at_seq q fun d g1 s1 v H1 ek L1 r q1 => ⟨d, g1, s1, ek, L1, r, q1⟩)) fun u sh1 ⟨v, H1, I1, rv, d, g1, s1, ek, L1, r, q1⟩ => k u sh1 v g1 s1 H1 d I1 rv ek L1 r q1
theorem GE.of {e : Expr} {m : M Dat} (h : ∀ t W, TakesE X t W → ∀ pins sh σ H g s Q, Inv X pins σ H sh → LRel X.K t g s σ H → atE X.K t W g s σ H (m s) Q → wpAny (model X.prog X.w) X.A (eval e X.env) (EP X pins σ Q) X.xe sh) : GE X e m :=
  ⟨fun t W tk => ⟨fun pins sh σ H Q I ⟨g, s, L, q⟩ => h t W tk pins sh σ H g s Q I L q⟩⟩
theorem GT.of {e : Expr} {m : M Bool} (h : ∀ t W, TakesE X t W → ∀ pins sh σ H g s Q, Inv X pins σ H sh → LRel X.K t g s σ H → atT X.K t W g s σ H (m s) Q → wpAny (model X.prog X.w) X.A (isTrue e X.env (eval e X.env)) (TP X pins σ Q) X.xe sh) : GT X e m :=
  ⟨fun t W tk => ⟨fun pins sh σ H Q I ⟨g, s, L, q⟩ => h t W tk pins sh σ H g s Q I L q⟩⟩
/-- an end without a change -/
theorem at_here {α β : Type} {K : PySem.W.Frag} {R : Gh → β → α → Prop} {d : α} {v : β} {Q : β → Hp → Prop} (L : LRel K t g s σ H) (q : atG K t W R g s σ H (.ret d s) Q) (r : R g v d) : Q v H := q g v H (EK.refl _ _ _) L r

/-! ### expressions -/
variable {a b c e : Expr} {pos : Pos} {ma mb mc : M Dat}
theorem ge_lit {v : V} {d : Dat} (h : PE X e (tC v)) (r : ∀ g, RepG X.K g v d) : GE X e (pur d) := ⟨fun t W tk => PE.imp h fun σ H Q ⟨g, s, L, q⟩ => at_here L q (r g)⟩
theorem ge_int {i : Int} {j : Nat} : GE X (.Constant (.int i) j pos) (pur (.int i)) := ge_lit pe_int fun _ => .int i
theorem ge_bl {i : Bool} {j : Nat} : GE X (.Constant (.bool i) j pos) (pur (.bl i)) := ge_lit pe_bl fun _ => .bl i
theorem ge_non {j : Nat} : GE X (.Constant .none j pos) (pur .non) := ge_lit pe_non fun _ => .non
theorem ge_str {x : Str} {j : Nat} : GE X (.Constant (.str x) j pos) (pur (.str x)) := ge_lit pe_str fun _ => .str x
/-- a slot as a value: what the frame held alone is frozen -/
def rdSlot (i : Nat) : M Dat := fun s => match s.env[i]? with
  | some (.val d) => .ret d s
  | some (.own d) => .ret d ⟨s.env.set i (.val d), s.cs⟩
  | _ => .stuck
theorem ge_var {i : Nat} {x : Str} (hN : X.N[i]? = some x) (hv : Vis X.env.scope x) (hd : (x == ("__debug__" : Str)) = false) (hcd : (x == ("__classdict__" : Str)) = false) : GE X (.Name x pos) (rdSlot i) :=
  ⟨fun t W tk => PE.imp (pe_var hN hv hd hcd) fun σ H Q ⟨g, s, L, q⟩ => by
    unfold rdSlot at q
    cases e : s.env[i]? with
    | none => rw [e] at q; exact q.elim
    | some x =>
      rw [e] at q
      cases x with
      | val d =>
        obtain ⟨v, h1, h2⟩ := L.val i d e
        exact ⟨v, h1, at_here L q h2⟩
      | own d =>
        obtain ⟨a, g', h1, h2, h3, h4⟩ := L.freeze e
        exact ⟨.ref a, h1, q g' _ H h3 h2 h4⟩
      | unset => exact q.elim
      | slf d => exact q.elim
      | lam c => exact q.elim⟩
theorem ge_bin {op : Operator} {mo : Dat → Dat → M Dat} (ho : VOp X (fun us => match us with | [u, v] => binaryOp op u v | _ => pure .none) (fun ds => match ds with | [x, y] => mo x y | _ => fail)) (ha : GE X a ma) (hb : GE X b mb) :
    GE X (.BinOp a op b pos) (bnd ma fun x => bnd mb fun y => mo x y) :=
  GE.of fun t W tk pins sh σ H g s Q I L q => wpAny_BinOp (ha.seq tk I L q fun u sh1 v g1 s1 H1 d I1 rv e1 L1 r1 q1 => hb.seq tk I1 L1 q1 fun u2 sh2 v2 g2 s2 H2 d2 I2 rv2 e2 L2 r2 q2 =>
    ho t W tk pins sh2 σ H2 g2 s2 [v, v2] [u, u2] [d, d2] Q I2 (.cons rv (.cons rv2 .nil)) L2 (.cons (e2.le.rep r1) (.cons r2 .nil)) q2)
theorem ge_una {op : UnaryOp} {mo : Dat → M Dat} (ho : VOp X (fun us => match us with | [u] => unaryOp op u | _ => pure .none) (fun ds => match ds with | [x] => mo x | _ => fail)) (ha : GE X a ma) :
    GE X (.UnaryOp op a pos) (bnd ma mo) :=
  GE.of fun t W tk pins sh σ H g s Q I L q => UnaryOp_ (ha.seq tk I L q fun u sh1 v g1 s1 H1 d I1 rv e1 L1 r1 q1 =>
    ho t W tk pins sh1 σ H1 g1 s1 [v] [u] [d] Q I1 (.cons rv .nil) L1 (.cons r1 .nil) q1)
theorem ge_cmp {op : CmpOp} {mo : Dat → Dat → M Dat} (ho : VOp X (fun us => match us with | [u, v] => compareOp op u v | _ => pure .none) (fun ds => match ds with | [x, y] => mo x y | _ => fail)) (ha : GE X a ma) (hb : GE X b mb) (hm : behindInMarks op b = false) :
    GE X (.Compare a [op] [b] pos) (bnd ma fun x => bnd mb fun y => mo x y) :=
  GE.of fun t W tk pins sh σ H g s Q I L q => wpAny_Compare1 (ha.seq tk I L q fun u sh1 v g1 s1 H1 d I1 rv e1 L1 r1 q1 => hb.seq tk I1 L1 q1 fun u2 sh2 v2 g2 s2 H2 d2 I2 rv2 e2 L2 r2 q2 =>
    ho t W tk pins sh2 σ H2 g2 s2 [v, v2] [u, u2] [d, d2] Q I2 (.cons rv (.cons rv2 .nil)) L2 (.cons (e2.le.rep r1) (.cons r2 .nil)) q2) hm
end
end Zw

namespace Zw
open PySem L2 PyProof.Rows PySem.Spec

abbrev Con := List Dat → List (Option Dat) → Res
def callM (c : Con) (ds : List Dat) : M Dat := fun s => match c ds s.cs with
  | .ret d cs => .ret d ⟨s.env, cs⟩
  | .exc x cs => .exc x ⟨s.env, cs⟩
  | .stuck => .stuck
/-- the promise of a def that gives c -/
def spOf (K : PySem.W.Frag) (n : Nat) (c : Con) : Sp := fun vs H Q E => vs.length = n ∧ ∃ g cs ds, GRel K g cs H ∧ RepsG K g vs ds ∧ match c ds cs with
  | .ret d cs' => ∀ g' v H', GExt [] g cs H g' cs' H' → GRel K g' cs' H' → RepG K g' v d → Q v H'
  | .exc x cs' => ∀ g' H' cls dd, GExt [] g cs H g' cs' H' → GRel K g' cs' H' → XRep K g' cls dd x → E cls dd H'
  | .stuck => False
section
variable {K : PySem.W.Frag} {t : Ent} {g g' : Gh} {s : Sto} {σ : L2.St} {H H' : Hp} {cs' : List (Option Dat)}
theorem live_in {a : Addr} {cs : List (Option Dat)} (h : Live g cs a) : a ∈ g.io := by
  obtain ⟨n, d, _, e⟩ := h
  exact List.mem_of_getElem? e
theorem LRel.call (L : LRel K t g s σ H) (e : GExt [] g s.cs H g' cs' H') (gr : GRel K g' cs' H') : LRel K t g' ⟨s.env, cs'⟩ σ H' := by
  have stay : ∀ {a : Addr} {d : Dat}, CellOk K g H a d → ¬ a ∈ g.io → g.P a = none → CellOk K g' H' a d ∧ g'.P a = none ∧ ¬ a ∈ g'.io := fun {a d} h n p => by
    obtain ⟨o, ho⟩ := h.there
    refine ⟨h.mono e.le fun o' q => e.keep a o' q (fun l => n (live_in l)) (by simp), (e.pure a o ho).trans p, fun q => ?_⟩
    rcases e.new a q with z | z
    · exact n z
    · rw [ho] at z; cases z
  refine ⟨L.xin, gr, L.ex.trans e.weak, L.len, fun i d q => ?_, fun i d q => ?_, fun i d q => ?_, L.dst, L.one, L.lam⟩
  · obtain ⟨v, h1, h2⟩ := L.val i d q
    exact ⟨v, h1, e.le.rep h2⟩
  · obtain ⟨a, h1, h2, h3, h4, h5⟩ := L.own i d q
    obtain ⟨k1, k2, k3⟩ := stay h2 h5 h3
    exact ⟨a, h1, k1, k2, h4, k3⟩
  · obtain ⟨a, h1, h2, h3, h4, h5⟩ := L.slf i d q
    obtain ⟨k1, k2, k3⟩ := stay h2 h5 h3
    exact ⟨a, h1, k1, k2, h4, k3⟩
end

/-- the module's part of a context -/
structure Md where
  P : Program
  w : World
  K : PySem.W.Frag
  mg : Str → Option Value
  base : Heap
abbrev md (X : Cx) : Md := ⟨X.prog, X.w, X.K, X.mg, X.base⟩
/-- the def at f gives c; n values are handed in, dfl are the defaults behind them -/
structure FnIs (D : Md) (k : Nat) (f : Addr) (n : Nat) (dfl : List Dat) (c : Con) : Prop where
  ex : ∃ fd ps, ps.length = n + dfl.length ∧ FnOk D.P D.w D.K D.mg D.base (CX D.P D.w) k f fd ps (spOf D.K ps.length c) ∧
    ∃ dvs ds, Vals dvs ds ∧ (∀ g, RepsG D.K g dvs dfl) ∧ ∀ (sh : Shared) (us : List Value), D.K.In sh.heap → us.length = n → BindsTo sh fd ⟨us, []⟩ (ps.zip (us ++ ds))
  kp : PySem.W.keepIn D.K (.ref f) = true
section
variable {X : Cx}
theorem code_fn {k n : Nat} {f : Addr} {dfl : List Dat} {c : Con} (F : FnIs (md X) k f n dfl c) (hr : Room k X.A) {t : Ent} {W : WX} (tk : TakesE X t W) {pins : List (Addr × Obj)} {sh : Shared} {σ : L2.St} {H : Hp} {g : Gh} {s : Sto} {xs : List V} {us : List Value} {ds : List Dat} {Q : VK}
    (I : Inv X pins σ H sh) (rv : Vals xs us) (L : LRel X.K t g s σ H) (r : RepsG X.K g xs ds) (hn : ds.length = n) (q : atE X.K t W g s σ H (callM c (ds ++ dfl) s) Q) : codeAny (model X.prog X.w) X.A (.call (.ref f) ⟨us, []⟩) (wants (EP X pins σ Q) X.xe) sh := by
  obtain ⟨fd, ps, hl, Fk, dvs, dv, rd, rg, hb⟩ := F.ex
  have hu : us.length = n := by rw [← rv.length, r.length]; exact hn
  have lx : (xs ++ dvs).length = ps.length := by
    rw [List.length_append, r.length, (rg g).length, hn, hl]
  have sp : spOf X.K ps.length c (xs ++ dvs) H Q (WE W σ) := by
    refine ⟨lx, g, s.cs, ds ++ dfl, L.gr, r.append (rg g), ?_⟩
    unfold callM at q
    cases e : c (ds ++ dfl) s.cs with
    | ret d cs' => rw [e] at q; exact fun g' v H' e' gr r' => q g' v H' e'.toEK (L.call e' gr) r'
    | exc x cs' => rw [e] at q; exact fun g' H' cls dd e' gr r' => q g' H' cls dd e'.toEK (L.call e' gr) r'
    | stuck => rw [e] at q; exact q.elim
  refine codeAny_mono (Fk.run X.A X.stack sh H ⟨us, []⟩ (us ++ dv) (xs ++ dvs) Q (WE W σ) hr I.env0 (hb sh us I.kIn hu) (rv.append rd) sp) fun r s' hq => ?_
  cases r with
  | error e => exact passAt tk.tk σ pins H sh e s' I hq
  | ok fl =>
    cases fl with
    | ret u => exact I.after hq
    | next => exact False.elim hq
    | brk => exact False.elim hq
    | cont => exact False.elim hq
theorem vop_fn {k n : Nat} {f : Addr} {dfl : List Dat} {c : Con} (F : FnIs (md X) k f n dfl c) (hr : Room k X.A) : VOp X (fun us => call (.ref f) us) (fun ds => if ds.length = n then callM c (ds ++ dfl) else fail) := by
  intro t W tk pins sh σ H g s xs us ds Q I rv L r q
  dsimp only at q ⊢
  by_cases hn : ds.length = n
  case neg => rw [if_neg hn] at q; exact q.elim
  rw [if_pos hn] at q
  exact wpAny_call (code_fn F hr tk I rv L r hn q)
end
end Zw

namespace Zw
open PySem L2 PyProof.Rows PySem.Spec

/-! ### tests -/
/-- the truth of a value -/
def VTr (X : Cx) (m : Dat → M Bool) : Prop := ∀ (t : Ent) (W : WX), TakesE X t W → ∀ (pins : List (Addr × Obj)) (sh : Shared) (σ : L2.St) (H : Hp) (g : Gh) (s : Sto) (x : V) (u : Value) (d : Dat) (Q : Bool → Hp → Prop),
  Inv X pins σ H sh → RelV x u → LRel X.K t g s σ H → RepG X.K g x d → atT X.K t W g s σ H (m d s) Q → wpAny (model X.prog X.w) X.A (truthy u) (TP X pins σ Q) X.xe sh
structure GW (X : Cx) (e : Expr) (m : M Bool) : Prop where
  run : ∀ t W, TakesE X t W → PW X e (rdT X.K t W m)
def andT (a b : M Bool) : M Bool := bnd a fun c => if c = true then b else pur false
def orT (a b : M Bool) : M Bool := bnd a fun c => if c = true then pur true else b
def notT (a : M Bool) : M Bool := bnd a fun c => pur (!c)
def andV (a b : M Dat) : M Dat := bnd a fun x => match x with | .bl c => if c = true then b else pur (.bl false) | _ => fail
def orV (a b : M Dat) : M Dat := bnd a fun x => match x with | .bl c => if c = true then pur (.bl true) else b | _ => fail
def ifM {α : Type} (t : M Bool) (a b : M α) : M α := bnd t fun c => if c = true then a else b
section
variable {X : Cx} {a b c e : Expr} {rest : List Expr} {pos : Pos} {ma mb mc : M Dat} {ta tb : M Bool}
theorem GW.gt (h : GW X e ta) : GT X e ta := ⟨fun t W tk => (h.run t W tk).pt⟩
theorem at_ite {α β : Type} {K : PySem.W.Frag} {t : Ent} {W : WX} {R : Gh → β → α → Prop} {g : Gh} {s : Sto} {σ : L2.St} {H : Hp} {k : Bool} {m m' : M α} {Q : β → Hp → Prop} (h : atG K t W R g s σ H ((if k = true then m else m') s) Q) :
    if k = true then atG K t W R g s σ H (m s) Q else atG K t W R g s σ H (m' s) Q := by
  cases k <;> exact h
theorem gw_and1 (ha : GT X a ta) : GW X (.BoolOp .And [a] pos) ta := ⟨fun t W tk => pw_and1 (ha.run t W tk)⟩
theorem gw_or1 (ha : GT X a ta) : GW X (.BoolOp .Or [a] pos) ta := ⟨fun t W tk => pw_or1 (ha.run t W tk)⟩
theorem gw_and (ha : GT X a ta) (hb : GW X (.BoolOp .And (b :: rest) pos) tb) : GW X (.BoolOp .And (a :: b :: rest) pos) (andT ta tb) := ⟨fun t W tk => ⟨fun whole pins sh σ H Q I ⟨g, s, L, q⟩ =>
  (pw_and (ha.run t W tk) (hb.run t W tk)).run whole pins sh σ H Q I (rd_seq (Q1 := fun c H1 => if c = true then rdT X.K t W tb σ H1 Q else Q false H1) L q fun d g1 s1 v H1 ek L1 r q1 => by
    subst r
    cases v with
    | true => exact ⟨g1, s1, L1, q1⟩
    | false => exact at_here (v := false) L1 q1 rfl)⟩⟩
theorem gw_or (ha : GT X a ta) (hb : GW X (.BoolOp .Or (b :: rest) pos) tb) : GW X (.BoolOp .Or (a :: b :: rest) pos) (orT ta tb) := ⟨fun t W tk => ⟨fun whole pins sh σ H Q I ⟨g, s, L, q⟩ =>
  (pw_or (ha.run t W tk) (hb.run t W tk)).run whole pins sh σ H Q I (rd_seq (Q1 := fun c H1 => if c = true then Q true H1 else rdT X.K t W tb σ H1 Q) L q fun d g1 s1 v H1 ek L1 r q1 => by
    subst r
    cases v with
    | true => exact at_here (v := true) L1 q1 rfl
    | false => exact ⟨g1, s1, L1, q1⟩)⟩⟩
theorem gt_not (ha : GT X a ta) : GT X (.UnaryOp .Not a pos) (notT ta) := ⟨fun t W tk => PT.imp (pt_not (ha.run t W tk)) fun σ H Q ⟨g, s, L, q⟩ =>
  rd_seq (Q1 := fun c H1 => Q (!c) H1) L q fun d g1 s1 v H1 ek L1 r q1 => by subst r; exact at_here (v := !v) L1 q1 rfl⟩
theorem gt_val {mt : Dat → M Bool} (hv : VTr X mt) (ha : GE X e ma) (he : ∀ whole, isTrue e X.env whole = (do let v ← whole; standAt e.pos; holding [v] (truthy v))) : GT X e (bnd ma mt) :=
  GT.of fun t W tk pins sh σ H g s Q I L q => by
    rw [he]
    refine wpAny_bind (ha.seq tk I L q fun u sh1 v g1 s1 H1 d I1 rv e1 L1 r1 q1 => wpAny_bind (wpAny_standAt (wpAny_holding ?_)))
    exact hv t W tk pins sh1 σ H1 g1 s1 v u d Q I1 rv L1 r1 q1
theorem gt_cmp {op : CmpOp} {mo : Dat → Dat → M Dat} {mt : Dat → M Bool} (hv : VTr X mt) (ho : VOp X (fun us => match us with | [u, v] => compareOp op u v | _ => pure .none) (fun ds => match ds with | [x, y] => mo x y | _ => fail)) (ha : GE X a ma) (hb : GE X b mb) (hm : behindInMarks op b = false) :
    GT X (.Compare a [op] [b] pos) (bnd ma fun x => bnd mb fun y => bnd (mo x y) mt) :=
  GT.of fun t W tk pins sh σ H g s Q I L q => by
    refine wpAny_isTrue_Compare1 (ha.seq tk I L q fun u sh1 v g1 s1 H1 d I1 rv e1 L1 r1 q1 => hb.seq tk I1 L1 q1 fun u2 sh2 v2 g2 s2 H2 d2 I2 rv2 e2 L2 r2 q2 => ?_) hm
    refine ho.seq tk (xs := [v, v2]) (us := [u, u2]) (ds := [d, d2]) I2 (.cons rv (.cons rv2 .nil)) L2 (.cons (e2.le.rep r1) (.cons r2 .nil)) q2 fun u3 sh3 v3 g3 s3 H3 d3 I3 rv3 e3 L3 r3 q3 => ?_
    exact hv t W tk pins sh3 σ H3 g3 s3 v3 u3 d3 Q I3 rv3 L3 r3 q3
theorem ge_andV (ha : GE X a ma) (hb : GE X (.BoolOp .And (b :: rest) pos) mb) : GE X (.BoolOp .And (a :: b :: rest) pos) (andV ma mb) := ⟨fun t W tk => PE.imp (pe_and (ha.run t W tk) (hb.run t W tk)) fun σ H Q ⟨g, s, L, q⟩ =>
  rd_seq (R := RepG X.K) (Q1 := fun (x : V) H1 => ∃ c, x = V.bl c ∧ if c = true then rdE X.K t W mb σ H1 Q else Q (.bl false) H1) L q fun d g1 s1 v H1 ek L1 r q1 => by
    cases r with
    | bl c =>
      refine ⟨c, rfl, ?_⟩
      cases c with
      | true => exact ⟨g1, s1, L1, q1⟩
      | false => exact at_here (v := V.bl false) L1 q1 (.bl false)
    | _ => exact q1.elim⟩
theorem ge_orV (ha : GE X a ma) (hb : GE X (.BoolOp .Or (b :: rest) pos) mb) : GE X (.BoolOp .Or (a :: b :: rest) pos) (orV ma mb) := ⟨fun t W tk => PE.imp (pe_or (ha.run t W tk) (hb.run t W tk)) fun σ H Q ⟨g, s, L, q⟩ =>
  rd_seq (R := RepG X.K) (Q1 := fun (x : V) H1 => ∃ c, x = V.bl c ∧ if c = true then Q (.bl true) H1 else rdE X.K t W mb σ H1 Q) L q fun d g1 s1 v H1 ek L1 r q1 => by
    cases r with
    | bl c =>
      refine ⟨c, rfl, ?_⟩
      cases c with
      | true => exact at_here (v := V.bl true) L1 q1 (.bl true)
      | false => exact ⟨g1, s1, L1, q1⟩
    | _ => exact q1.elim⟩
theorem ge_oneV {op : BoolOp} (ha : GE X a ma) : GE X (.BoolOp op [a] pos) ma := ⟨fun t W tk => pe_one (ha.run t W tk)⟩
theorem ge_ife (hc : GT X c ta) (ha : GE X a ma) (hb : GE X b mb) : GE X (.IfExp c a b pos) (ifM ta ma mb) := ⟨fun t W tk => PE.imp (pe_ifExp (hc.run t W tk) (ha.run t W tk) (hb.run t W tk)) fun σ H Q ⟨g, s, L, q⟩ =>
  rd_seq (Q1 := fun k H1 => if k = true then rdE X.K t W ma σ H1 Q else rdE X.K t W mb σ H1 Q) L q fun d g1 s1 v H1 ek L1 r q1 => by
    subst r
    cases v with
    | true => exact ⟨g1, s1, L1, q1⟩
    | false => exact ⟨g1, s1, L1, q1⟩⟩
/-! ### argument lists -/
def nilA : M (List Dat) := pur []
def consA (m : M Dat) (r : M (List Dat)) : M (List Dat) := bnd m fun d => bnd r fun ds => pur (d :: ds)
theorem ga_nil : GA X [] nilA := ⟨fun t W tk => PA.imp pa_nil fun σ H Q ⟨g, s, L, q⟩ => at_here (v := []) L q .nil⟩
theorem ga_cons {mr : M (List Dat)} (ha : GE X e ma) (hr : GA X rest mr) (hs : starEach (e :: rest) X.env = (false, eval e X.env) :: starEach rest X.env) : GA X (e :: rest) (consA ma mr) :=
  ⟨fun t W tk => PA.imp (pa_cons (ha.run t W tk) (hr.run t W tk) hs) fun σ H Q ⟨g, s, L, q⟩ =>
    rd_seq (Q1 := fun x H1 => rdA X.K t W mr σ H1 fun xs H2 => Q (x :: xs) H2) L q fun d g1 s1 v H1 ek L1 r q1 =>
      rd_seq (R := RepsG X.K) (Q1 := fun xs H2 => Q (v :: xs) H2) L1 q1 fun ds g2 s2 vs H2 ek2 L2 r2 q2 => at_here (v := v :: vs) L2 q2 (.cons (ek2.le.rep r) r2)⟩
end
end Zw

namespace Zw
open PySem L2 PyProof.Rows PySem.Spec

section
variable {K : PySem.W.Frag} {t : Ent} {g g' : Gh} {s : Sto} {σ : L2.St} {H H' : Hp} {i : Nat} {v : V} {d : Dat} {W : WX} {D : Ends}
theorem set_at {α : Type} {l : List α} {i j : Nat} {x y : α} (h : (l.set i x)[j]? = some y) : (j = i ∧ y = x) ∨ (j ≠ i ∧ l[j]? = some y) := by
  by_cases q : j = i
  · subst q
    by_cases hi : j < l.length
    · rw [List.getElem?_set_self hi] at h; cases h
      exact .inl ⟨rfl, rfl⟩
    · rw [List.getElem?_eq_none (by simpa using hi)] at h; cases h
  · rw [List.getElem?_set_ne (Ne.symm q)] at h
    exact .inr ⟨q, h⟩
/-- a slot gets a value -/
theorem LRel.setVal (L : LRel K t g s σ H) (r : RepG K g v d) : LRel K t g ⟨s.env.set i (.val d), s.cs⟩ (σ.set i (some v)) H := by
  have ne : ∀ {j : Nat} {x : Option V}, j ≠ i → σ[j]? = some x → (σ.set i (some v))[j]? = some x := fun h e => by rw [List.getElem?_set_ne (Ne.symm h)]; exact e
  refine ⟨L.xin, L.gr, L.ex, by simpa using L.len, fun j e q => ?_, fun j e q => ?_, fun j e q => ?_, fun j k a e e' z1 z2 z3 z4 => ?_, fun j k e e' z1 z2 => ?_, fun j c q => ?_⟩
  · rcases set_at q with ⟨rfl, z⟩ | ⟨n, z⟩
    · cases z
      have hi : j < σ.length := by
        have h1 := (List.getElem?_eq_some_iff.mp q).1
        rw [List.length_set, L.len] at h1
        exact h1
      exact ⟨v, List.getElem?_set_self hi, r⟩
    · obtain ⟨u, h1, h2⟩ := L.val j e z
      exact ⟨u, ne n h1, h2⟩
  · rcases set_at q with ⟨_, z⟩ | ⟨n, z⟩
    · cases z
    · obtain ⟨a, h1, h2⟩ := L.own j e z
      exact ⟨a, ne n h1, h2⟩
  · rcases set_at q with ⟨_, z⟩ | ⟨n, z⟩
    · cases z
    · obtain ⟨a, h1, h2⟩ := L.slf j e z
      exact ⟨a, ne n h1, h2⟩
  · rcases set_at z1 with ⟨_, z⟩ | ⟨n1, z⟩
    · cases z
    · rcases set_at z2 with ⟨_, z'⟩ | ⟨n2, z'⟩
      · cases z'
      · rw [List.getElem?_set_ne (Ne.symm n1)] at z3
        rw [List.getElem?_set_ne (Ne.symm n2)] at z4
        exact L.dst j k a e e' z z' z3 z4
  · rcases set_at z1 with ⟨_, z⟩ | ⟨n1, z⟩
    · cases z
    · rcases set_at z2 with ⟨_, z'⟩ | ⟨n2, z'⟩
      · cases z'
      · exact L.one j k e e' z z'
  · rcases set_at q with ⟨_, z⟩ | ⟨n, z⟩
    · cases z
    · obtain ⟨f, h1, h2⟩ := L.lam j c z
      exact ⟨f, ne n h1, h2⟩
theorem atS_le {o : OutS} (l : GLe g g') (h : atS K t W g o D) : atS K t W g' o D := by
  cases o with
  | nx s => exact fun g2 σ' H' z => h g2 σ' H' (l.trans z)
  | bk s => exact fun g2 σ' H' z => h g2 σ' H' (l.trans z)
  | ct s => exact fun g2 σ' H' z => h g2 σ' H' (l.trans z)
  | rt d s => exact fun g2 σ' v H' z => h g2 σ' v H' (l.trans z)
  | exc x s => exact fun g2 σ' H' c dd z => h g2 σ' H' c dd (l.trans z)
  | stuck => exact h
end

/-! ### statements -/
def seqS (m f : MS) : MS := fun s => match m s with
  | .nx s' => f s'
  | o => o
def bndS {α : Type} (m : M α) (f : α → MS) : MS := fun s => match m s with
  | .ret a s' => f a s'
  | .exc x s' => .exc x s'
  | .stuck => .stuck
def nextS : MS := fun s => .nx s
def asgS (i : Nat) (d : Dat) : MS := fun s => .nx ⟨s.env.set i (.val d), s.cs⟩
def retS (d : Dat) : MS := fun s => .rt d s
def ifS (t : M Bool) (a b : MS) : MS := bndS t fun c => if c = true then a else b
/-- a target -/
structure GG (X : Cx) (tg : Expr) (m : Dat → MS) : Prop where
  run : ∀ t, PG X tg (fun v σ H Q => ∃ g s d, LRel X.K t g s σ H ∧ RepG X.K g v d ∧ match m d s with
    | .nx s' => ∀ g' σ' H', GLe g g' → LRel X.K t g' s' σ' H' → Q σ' H'
    | _ => False)
/-- what is walked -/
def JOk (K : PySem.W.Frag) (t : Ent) (g0 : Gh) (J : It) (ds : List Dat) : Prop := ∀ (i : Nat) (t : Ent) g s σ H, GLe g0 g → LRel K t g s σ H → (i < ds.length → J.go i H) ∧ (ds.length ≤ i → J.stop i H) ∧
  ∀ x H' d, ds[i]? = some d → J.yld i H x H' → ∃ g', EK [] g s.cs H g' s.cs H' ∧ LRel K t g' s σ H' ∧ RepG K g' x d
structure GI (X : Cx) (tg iter : Expr) (m : M (List Dat)) : Prop where
  run : ∀ t W, TakesE X t W → PI X tg iter (rdG X.K t W (fun g J ds => JOk X.K t g J ds) m)
def forM (g : Dat → MS) (b : MS) : List Dat → MS
  | [] => nextS
  | d :: ds => fun s => match g d s with
    | .nx s1 => (match b s1 with
      | .nx s2 => forM g b ds s2
      | .ct s2 => forM g b ds s2
      | .bk s2 => .nx s2
      | o => o)
    | _ => .stuck
def whileN (c : M Bool) (b : MS) : Nat → MS
  | 0 => fun _ => .stuck
  | n + 1 => fun s => match c s with
    | .ret true s1 => (match b s1 with
      | .nx s2 => whileN c b n s2
      | .ct s2 => whileN c b n s2
      | .bk s2 => .nx s2
      | o => o)
    | .ret false s1 => .nx s1
    | .exc x s1 => .exc x s1
    | .stuck => .stuck
open Classical in
noncomputable def whileM (c : M Bool) (b : MS) : MS := fun s => if h : ∃ n, whileN c b n s ≠ .stuck then whileN c b (choose h) s else .stuck
section
variable {X : Cx} {st : Stmt} {rest body : List Stmt} {pos : Pos} {m f : MS} {e c : Expr} {me : M Dat} {tc : M Bool}
theorem gss_nil : GSs X [] nextS := ⟨fun t W tk => PSs.imp pss_nil fun D σ H ⟨g, s, L, q⟩ => q g σ H (GLe.refl g) L⟩
theorem gss_cons (h1 : GS X st m) (h2 : GSs X rest f) : GSs X (st :: rest) (seqS m f) := ⟨fun t W tk => PSs.imp (pss_cons (h1.run t W tk) (h2.run t W tk)) fun D σ H ⟨g, s, L, q⟩ => by
  refine ⟨g, s, L, ?_⟩
  unfold seqS at q
  cases e : m s with
  | nx s' => rw [e] at q; exact fun g' σ' H' l L' => ⟨g', s', L', atS_le l q⟩
  | _ => rw [e] at q; exact q⟩
theorem gss_one (h1 : GS X st m) : GSs X [st] m := ⟨fun t W tk => pss_one (h1.run t W tk)⟩
theorem rdS_seq {α β : Type} {K : PySem.W.Frag} {t : Ent} {W : WX} {R : Gh → β → α → Prop} {g : Gh} {s : Sto} {σ : L2.St} {H : Hp} {m : M α} {f : α → MS} {D : Ends} {Q1 : β → Hp → Prop} (L : LRel K t g s σ H) (h : atS K t W g (bndS m f s) D)
    (k : ∀ d g1 s1 v H1, EK [] g s.cs H g1 s1.cs H1 → LRel K t g1 s1 σ H1 → R g1 v d → atS K t W g1 (f d s1) D → Q1 v H1) : rdG K t W R m σ H Q1 := by
  refine ⟨g, s, L, ?_⟩
  unfold bndS at h
  cases e : m s with
  | ret d s1 =>
    rw [e] at h
    exact fun g1 v H1 e1 L1 r1 => k d g1 s1 v H1 e1 L1 r1 (atS_le e1.le h)
  | exc x s1 => rw [e] at h; exact fun g' H' cls dd e1 L1 r1 => h g' σ H' cls dd e1.le L1 r1
  | stuck => rw [e] at h; exact h
theorem gs_pass : GS X (.Pass pos) nextS := ⟨fun t W tk => PS.imp ps_pass fun D σ H ⟨g, s, L, q⟩ => q g σ H (GLe.refl g) L⟩
theorem gs_break : GS X (.Break pos) (fun s => .bk s) := ⟨fun t W tk => PS.imp ps_break fun D σ H ⟨g, s, L, q⟩ => q g σ H (GLe.refl g) L⟩
theorem gs_cont : GS X (.Continue pos) (fun s => .ct s) := ⟨fun t W tk => PS.imp ps_continue fun D σ H ⟨g, s, L, q⟩ => q g σ H (GLe.refl g) L⟩
theorem gs_doc {x : Str} {j : Nat} {pos' : Pos} : GS X (.Expr (.Constant (.str x) j pos) pos') nextS := ⟨fun t W tk => PS.imp ps_doc fun D σ H ⟨g, s, L, q⟩ => q g σ H (GLe.refl g) L⟩
theorem gs_expr (he : GE X e me) (hs : swapsWith e none pos.line X.env = pure false) : GS X (.Expr e pos) (bndS me fun _ => nextS) := ⟨fun t W tk => PS.imp (ps_expr (he.run t W tk) hs) fun D σ H ⟨g, s, L, q⟩ =>
  rdS_seq (Q1 := fun _ H1 => D.nx σ H1) L q fun d g1 s1 v H1 ek L1 r q1 => q1 g1 σ H1 (GLe.refl _) L1⟩
theorem gs_ret (he : GE X e me) : GS X (.Return (some e) pos) (bndS me retS) := ⟨fun t W tk => PS.imp (ps_ret (he.run t W tk)) fun D σ H ⟨g, s, L, q⟩ =>
  rdS_seq (Q1 := D.rt) L q fun d g1 s1 v H1 ek L1 r q1 => q1 g1 σ v H1 (GLe.refl _) L1 r⟩
theorem gs_retN : GS X (.Return none pos) (retS .non) := ⟨fun t W tk => PS.imp ps_retN fun D σ H ⟨g, s, L, q⟩ => q g σ .non H (GLe.refl _) L .non⟩
theorem gs_if {a b : List Stmt} {m f : MS} (hc : GT X c tc) (ha : GSs X a m) (hb : GSs X b f) : GS X (.If c a b pos) (ifS tc m f) := ⟨fun t W tk => PS.imp (ps_if (hc.run t W tk) (ha.run t W tk) (hb.run t W tk)) fun D σ H ⟨g, s, L, q⟩ =>
  rdS_seq (Q1 := fun k H1 => if k = true then rdS X.K t W m D σ H1 else rdS X.K t W f D σ H1) L q fun d g1 s1 v H1 ek L1 r q1 => by
    subst r
    cases v with
    | true => exact ⟨g1, s1, L1, q1⟩
    | false => exact ⟨g1, s1, L1, q1⟩⟩
theorem gs_set {i : Nat} {x : Str} {pos' : Pos} (hN : X.N.Nodup) (hi : X.N[i]? = some x) (hx : Loc X.env.scope x) (hf : X.fn x = true ∨ X.env.scope.names.lookup x = some .local) (he : GE X e me) (hs : swapsWith e (some (.Name x pos')) pos.line X.env = pure false) :
    GS X (.Assign [.Name x pos'] e pos) (bndS me (asgS i)) := ⟨fun t W tk => PS.imp (ps_set hN hi hx (he.run t W tk) hs hf) fun D σ H ⟨g, s, L, q⟩ =>
  rdS_seq (Q1 := fun x H1 => gName i x σ H1 D.nx) L q fun d g1 s1 v H1 ek L1 r q1 => q1 g1 _ H1 (GLe.refl _) (L1.setVal r)⟩
theorem gs_asg {tg : Expr} {mg : Dat → MS} (he : GE X e me) (hg : GG X tg mg) (hs : swapsWithSole [tg] e pos.line X.env = pure false) (hw : swappedStores [tg] e X.env = pure none) (h1 : (assignEach [tg] X.env).map (·.2) = [assign tg X.env]) (hz : ∀ d s, ∃ s', mg d s = .nx s' ∨ mg d s = .stuck) :
    GS X (.Assign [tg] e pos) (bndS me mg) := ⟨fun t W tk => PS.imp (ps_asg (he.run t W tk) (hg.run t) hs hw h1) fun D σ H ⟨g, s, L, q⟩ =>
  rdS_seq (Q1 := fun x H1 => ∃ g s d, LRel X.K t g s σ H1 ∧ RepG X.K g x d ∧ match mg d s with
    | .nx s' => ∀ g' σ' H', GLe g g' → LRel X.K t g' s' σ' H' → D.nx σ' H'
    | _ => False) L q fun d g1 s1 v H1 ek L1 r q1 => ⟨g1, s1, d, L1, r, by
      obtain ⟨s', h | h⟩ := hz d s1
      · rw [h] at q1 ⊢; exact q1
      · rw [h] at q1; exact q1.elim⟩⟩
theorem gg_name {i : Nat} {x : Str} (hN : X.N.Nodup) (hi : X.N[i]? = some x) (hx : Loc X.env.scope x) (hf : X.fn x = true ∨ X.env.scope.names.lookup x = some .local) : GG X (.Name x pos) (asgS i) :=
  ⟨fun t => ⟨fun pins sh σ H v u Q I rv ⟨g, s, d, L, r, q⟩ => (pg_name hN hi hx hf).run pins sh σ H v u Q I rv (q g _ H (GLe.refl _) (L.setVal r))⟩⟩
theorem gs_for {tg iter : Expr} {mi : M (List Dat)} {mg : Dat → MS} (hp : PassesOwn (model X.prog X.w) X.A X.env X.xe) (hc : X.calm = true) (hi : GI X tg iter mi) (hg : GG X tg mg) (hb : GSs X body m) (hs : ∀ x, foldedSetIterable iter X.env x = pure x) :
    GS X (.For tg iter body [] pos) (bndS mi fun ds => forM mg m ds) := ⟨fun t W tk => PS.imp (ps_for hp hc (hi.run t W tk) (hg.run t) (hb.run t W tk) hs) fun D σ H ⟨g, s, L, q⟩ => by
  refine rdS_seq (R := fun g J ds => JOk X.K t g J ds) (Q1 := fun J H1 => _) L q fun ds g1 s1 J H1 ek L1 r q1 => ?_
  refine ⟨fun i n σ H => ∃ g s, LRel X.K t g s σ H ∧ GLe g1 g ∧ i + n = ds.length ∧ atS X.K t W g (forM mg m (ds.drop i) s) D, ⟨ds.length, g1, s1, L1, GLe.refl _, by omega, q1⟩, ?_⟩
  rintro i n σ2 H2 ⟨g2, s2, L2, l2, hin, q2⟩
  obtain ⟨j1, j2, j3⟩ := r i t g2 s2 σ2 H2 l2 L2
  cases n with
  | zero =>
    refine .inl ⟨j2 (by omega), ?_⟩
    rw [List.drop_eq_nil_of_le (by omega)] at q2
    exact q2 g2 σ2 H2 (GLe.refl _) L2
  | succ n =>
    have hlt : i < ds.length := by omega
    refine .inr ⟨j1 hlt, fun σ3 H3 => ∃ g s, LRel X.K t g s σ3 H3 ∧ GLe g1 g ∧ (i + 1) + n = ds.length ∧ atS X.K t W g (forM mg m (ds.drop (i + 1)) s) D, fun σ3 H3 w => ⟨n, Nat.lt_succ_self n, w⟩, fun x H' y => ?_⟩
    rw [List.drop_eq_getElem_cons hlt] at q2
    obtain ⟨g3, e3, L3, r3⟩ := j3 x H' ds[i] (List.getElem?_eq_getElem hlt) y
    refine ⟨g3, s2, ds[i], L3, r3, ?_⟩
    unfold forM at q2
    cases eg : mg ds[i] s2 with
    | nx s3 =>
      rw [eg] at q2
      intro g4 σ4 H4 l4 L4
      refine ⟨g4, s3, L4, ?_⟩
      have q2 : atS X.K t W g2 (match m s3 with
        | .nx s2 => forM mg m (ds.drop (i + 1)) s2
        | .ct s2 => forM mg m (ds.drop (i + 1)) s2
        | .bk s2 => .nx s2
        | o => o) D := q2
      have l5 : GLe g2 g4 := e3.le.trans l4
      cases em : m s3 with
      | nx s4 => rw [em] at q2; exact fun g5 σ5 H5 l L5 => ⟨g5, s4, L5, l2.trans (l5.trans l), by omega, atS_le (l5.trans l) q2⟩
      | ct s4 => rw [em] at q2; exact fun g5 σ5 H5 l L5 => ⟨g5, s4, L5, l2.trans (l5.trans l), by omega, atS_le (l5.trans l) q2⟩
      | bk s4 => rw [em] at q2; exact fun g5 σ5 H5 l L5 => q2 g5 σ5 H5 (l5.trans l) L5
      | rt d s4 => rw [em] at q2; exact fun g5 σ5 v H5 l L5 => q2 g5 σ5 v H5 (l5.trans l) L5
      | exc x s4 => rw [em] at q2; exact fun g5 σ5 H5 cl dd l L5 => q2 g5 σ5 H5 cl dd (l5.trans l) L5
      | stuck => rw [em] at q2; exact q2
    | _ => rw [eg] at q2; exact q2.elim⟩
theorem whileN_mono {c : M Bool} {b : MS} : ∀ {n : Nat} {s : Sto}, whileN c b n s ≠ .stuck → whileN c b (n + 1) s = whileN c b n s
  | 0, s, h => absurd rfl h
  | n + 1, s, h => by
    unfold whileN at h
    unfold whileN
    cases ec : c s with
    | ret k s1 =>
      rw [ec] at h
      cases k with
      | false => rfl
      | true =>
        have h : (match b s1 with
          | .nx s2 => whileN c b n s2
          | .ct s2 => whileN c b n s2
          | .bk s2 => .nx s2
          | o => o) ≠ OutS.stuck := h
        show (match b s1 with
          | .nx s2 => whileN c b (n + 1) s2
          | .ct s2 => whileN c b (n + 1) s2
          | .bk s2 => .nx s2
          | o => o) = (match b s1 with
          | .nx s2 => whileN c b n s2
          | .ct s2 => whileN c b n s2
          | .bk s2 => .nx s2
          | o => o)
        cases eb : b s1 with
        | nx s2 => rw [eb] at h; exact whileN_mono h
        | ct s2 => rw [eb] at h; exact whileN_mono h
        | _ => rfl
    | exc x s1 => rfl
    | stuck => rfl
theorem whileN_le {c : M Bool} {b : MS} {n k : Nat} {s : Sto} (h : whileN c b n s ≠ .stuck) : whileN c b (n + k) s = whileN c b n s := by
  induction k with
  | zero => rfl
  | succ k ih =>
    have : whileN c b (n + k) s ≠ .stuck := by rw [ih]; exact h
    rw [← ih]
    exact whileN_mono this
theorem whileM_of {c : M Bool} {b : MS} {n : Nat} {s : Sto} (h : whileN c b n s ≠ .stuck) : whileM c b s = whileN c b n s := by
  have ex : ∃ n, whileN c b n s ≠ .stuck := ⟨n, h⟩
  unfold whileM
  rw [dif_pos ex]
  have h2 := Classical.choose_spec ex
  generalize Classical.choose ex = k at h2
  rcases Nat.le_total n k with q | q
  · obtain ⟨j, rfl⟩ := Nat.exists_eq_add_of_le q
    rw [whileN_le h]
  · obtain ⟨j, rfl⟩ := Nat.exists_eq_add_of_le q
    rw [whileN_le h2]
theorem gs_while {body : List Stmt} (hp : PassesOwn (model X.prog X.w) X.A X.env X.xe) (hc : GT X c tc) (hb : GSs X body m) : GS X (.While c body [] pos) (whileM tc m) := ⟨fun t W tk => PS.imp (ps_while hp (hc.run t W tk) (hb.run t W tk)) fun D σ H ⟨g, s, L, q⟩ => by
  have ex : ∃ n, whileN tc m n s ≠ .stuck := by
    refine Classical.byContradiction fun h => ?_
    unfold whileM at q
    rw [dif_neg h] at q
    exact q
  obtain ⟨n, hn⟩ := ex
  rw [whileM_of hn] at q
  refine ⟨fun n σ H => ∃ g s, LRel X.K t g s σ H ∧ atS X.K t W g (whileN tc m n s) D, ⟨n, g, s, L, q⟩, ?_⟩
  rintro n σ2 H2 ⟨g2, s2, L2, q2⟩
  cases n with
  | zero => exact q2.elim
  | succ n =>
    refine ⟨g2, s2, L2, ?_⟩
    unfold whileN at q2
    cases ec : tc s2 with
    | ret k s3 =>
      rw [ec] at q2
      intro g3 v3 H3 e3 L3 r3
      subst r3
      cases v3 with
      | false => exact q2 g3 σ2 H3 e3.le L3
      | true =>
        have q2 : atS X.K t W g2 (match m s3 with
          | .nx s2 => whileN tc m n s2
          | .ct s2 => whileN tc m n s2
          | .bk s2 => .nx s2
          | o => o) D := q2
        refine ⟨fun σ H => ∃ g s, LRel X.K t g s σ H ∧ atS X.K t W g (whileN tc m n s) D, fun σ' H' w => ⟨n, Nat.lt_succ_self n, w⟩, g3, s3, L3, ?_⟩
        have l5 := e3.le
        cases em : m s3 with
        | nx s4 => rw [em] at q2; exact fun g5 σ5 H5 l L5 => ⟨g5, s4, L5, atS_le (l5.trans l) q2⟩
        | ct s4 => rw [em] at q2; exact fun g5 σ5 H5 l L5 => ⟨g5, s4, L5, atS_le (l5.trans l) q2⟩
        | bk s4 => rw [em] at q2; exact fun g5 σ5 H5 l L5 => q2 g5 σ5 H5 (l5.trans l) L5
        | rt d s4 => rw [em] at q2; exact fun g5 σ5 v H5 l L5 => q2 g5 σ5 v H5 (l5.trans l) L5
        | exc x s4 => rw [em] at q2; exact fun g5 σ5 H5 cl dd l L5 => q2 g5 σ5 H5 cl dd (l5.trans l) L5
        | stuck => rw [em] at q2; exact q2
    | exc x s3 => rw [ec] at q2; exact fun g' H' cls dd e1 L1 r1 => q2 g' σ2 H' cls dd e1.le L1 r1
    | stuck => rw [ec] at q2; exact q2⟩
end
end Zw

namespace Zw
open PySem L2 PyProof.Rows PySem.Spec

/-! ### a def by its body -/
def envOf (N : Nat) (ds : List Dat) : List Slot := ds.map .val ++ List.replicate (N - ds.length) .unset
def endFn : OutS → Res
  | .nx s => .ret .non s.cs
  | .rt d s => .ret d s.cs
  | .exc x s => .exc x s.cs
  | _ => .stuck
def runFn (n N : Nat) (m : MS) : Con := fun ds cs => if ds.length = n then endFn (m ⟨envOf N ds, cs⟩) else .stuck
/-- a def's own frame: its code object, the names of what it makes -/
def codeV (K : PySem.W.Frag) (f : Addr) : Value := match K.lookup f with
  | some ⟨_, _, .func fd, _⟩ => fd.code
  | _ => .none
structure Fun (X : Cx) (f : Addr) (q : Str) : Prop where
  stk : X.stack = X.env :: X.outer
  frm : X.env.frame = some X.env.locals
  ex0 : X.ex = []
  code : X.env.code = codeV X.K f
  qual : X.env.qual = q ++ ".<locals>."
/-- where a def's body runs -/
structure XOk (X : Cx) (D : Md) (N : List Str) (sc : Scope) (k : Nat) (f : Addr) (q : Str) : Prop where
  md : md X = D
  nm : X.N = N
  nd : N.Nodup
  sc : X.env.scope = sc
  calm : X.calm = true
  pass : PassesOwn (model X.prog X.w) X.A X.env X.xe
  fn : ∀ x, Loc X.env.scope x → X.fn x = true ∨ X.env.scope.names.lookup x = some .local
  room : Room k X.A
  fun_ : Fun X f q
section
variable {D : Md} {f : Addr} {fd : FuncData} {N ps : List Str} {k : Nat} {body : List Stmt} {scope : Scope} {x qual : Str} {params : Arguments} {dvs : List V} {kws : List (Str × V)} {m : MS}
theorem start_len {N : List Str} {vs : List V} (h : vs.length ≤ N.length) : (L2.start N vs).length = N.length := by
  unfold L2.start
  rw [List.length_append, List.length_map, List.length_replicate]
  omega
theorem lrel_start {K : PySem.W.Frag} {g : Gh} {cs : List (Option Dat)} {H : Hp} {vs : List V} {ds : List Dat} (gr : GRel K g cs H) (r : RepsG K g vs ds) (hl : vs.length ≤ N.length) : LRel K ⟨[], g, cs, H, fun _ _ => False⟩ g ⟨envOf N.length ds, cs⟩ (L2.start N vs) H := by
  have el : (envOf N.length ds).length = N.length := by
    unfold envOf
    rw [List.length_append, List.length_map, List.length_replicate, ← r.length]
    omega
  have at_ : ∀ (i : Nat) (y : Slot), (envOf N.length ds)[i]? = some y → y = .unset ∨ ∃ d, y = .val d ∧ ds[i]? = some d := fun i y e => by
    unfold envOf at e
    by_cases hi : i < ds.length
    · rw [List.getElem?_append_left (by simpa using hi), List.getElem?_map] at e
      cases q : ds[i]? with
      | none => rw [q] at e; cases e
      | some d => rw [q] at e; cases e; exact .inr ⟨d, rfl, rfl⟩
    · rw [List.getElem?_append_right (by simpa using Nat.le_of_not_lt hi)] at e
      exact .inl (List.eq_of_mem_replicate (List.mem_of_getElem? e))
  refine ⟨fun a z => by simp at z, gr, GExt.refl _ _ _, by rw [el, start_len hl], fun i d e => ?_, fun i d e => ?_, fun i d e => ?_, fun i j a d e z1 => ?_, fun i j d e z1 => ?_, fun i c e => ?_⟩
  · rcases at_ i _ e with q | ⟨d', q, e'⟩
    · cases q
    · cases q
      obtain ⟨v, h1, h2⟩ := r.get e'
      refine ⟨v, ?_, h2⟩
      show (vs.map some ++ List.replicate (N.length - vs.length) none)[i]? = some (some v)
      rw [List.getElem?_append_left (by simpa using (List.getElem?_eq_some_iff.mp h1).1), List.getElem?_map, h1]
      rfl
  · rcases at_ i _ e with q | ⟨d', q, e'⟩ <;> cases q
  · rcases at_ i _ e with q | ⟨d', q, e'⟩ <;> cases q
  · rcases at_ i _ z1 with q | ⟨d', q, e'⟩ <;> cases q
  · rcases at_ i _ z1 with q | ⟨d', q, e'⟩ <;> cases q
  · rcases at_ i _ e with q | ⟨d', q, e'⟩ <;> cases q
theorem codeV_of {K : PySem.W.Frag} {f : Addr} {oc : Value} {od : Option Addr} {fd : FuncData} {osl : Array (Option Value)} (h : K.lookup f = some ⟨oc, od, .func fd, osl⟩) : codeV K f = fd.code := by
  unfold codeV
  rw [h]
theorem fn_ok (F : FunD D.K x qual params body scope dvs kws f fd) (S : FnScope N ps scope) (hlen : ps.length ≤ N.length) (hb : ∀ X, XOk X D N scope k f qual → GSs X body m) :
    FnOk D.P D.w D.K D.mg D.base (CX D.P D.w) (k + 1) f fd ps (spOf D.K ps.length (runFn ps.length N.length m)) := by
  obtain ⟨oc, od, dV, kV, doc, pm, an, cdv, ct, osl, rfl, lk, hcd, _, _⟩ := F.ex
  refine fn_of lk hcd S (fun vs H Q E h => h.1) fun A outer s H vs Q E hr h => ?_
  obtain ⟨hl, g, cs, ds, gr, r, q⟩ := h
  refine ⟨_, (hb (cxOf (CX D.P D.w) D.P D.w D.K D.mg D.base N qual scope f cdv A outer s H E) ⟨rfl, rfl, S.nd, rfl, rfl, passes_of rfl, fun _ _ => .inl rfl, hr, ⟨rfl, rfl, rfl, (codeV_of lk).symm, rfl⟩⟩).run ⟨[], g, cs, H, fun _ _ => False⟩ (fun cls d _ H => E cls d H) ⟨takes_of rfl rfl rfl rfl, fun _ _ f c z => z.elim⟩, g, ⟨envOf N.length ds, cs⟩, lrel_start gr r (by omega), ?_⟩
  have hd : ds.length = ps.length := by rw [← r.length]; exact hl
  unfold runFn at q
  rw [if_pos hd] at q
  cases e : m ⟨envOf N.length ds, cs⟩ with
  | nx s' => rw [e] at q; exact fun g' σ' H' l L => q g' .non H' L.ex L.gr .non
  | rt d s' => rw [e] at q; exact fun g' σ' v H' l L rv => q g' v H' L.ex L.gr rv
  | exc x s' => rw [e] at q; exact fun g' σ' H' cls dd l L rv => q g' H' cls dd L.ex L.gr rv
  | bk s' => rw [e] at q; exact q.elim
  | ct s' => rw [e] at q; exact q.elim
  | stuck => rw [e] at q; exact q.elim
end
/-- the order of results: what is stuck promises nothing -/
def Con.le (c c' : Con) : Prop := ∀ ds cs, c ds cs = .stuck ∨ c ds cs = c' ds cs
theorem spOf_le {K : PySem.W.Frag} {n : Nat} {c c' : Con} (h : Con.le c c') (vs : List V) (H : Hp) (Q : VK) (E : XK) (q : spOf K n c vs H Q E) : spOf K n c' vs H Q E := by
  obtain ⟨hl, g, cs, ds, gr, r, q⟩ := q
  refine ⟨hl, g, cs, ds, gr, r, ?_⟩
  rcases h ds cs with e | e
  · rw [e] at q; exact q.elim
  · rw [← e]; exact q
theorem FnIs.le {D : Md} {k : Nat} {f : Addr} {n : Nat} {dfl : List Dat} {c c' : Con} (h : Con.le c c') (F : FnIs D k f n dfl c') : FnIs D k f n dfl c := by
  obtain ⟨⟨fd, ps, hl, Fk, r⟩, kp⟩ := F
  exact ⟨⟨fd, ps, hl, Fk.imp (spOf_le h), r⟩, kp⟩
theorem FnIs.mono {D : Md} {j k : Nat} {f : Addr} {n : Nat} {dfl : List Dat} {c : Con} (F : FnIs D j f n dfl c) (h : j ≤ k) : FnIs D k f n dfl c := by
  obtain ⟨⟨fd, ps, hl, Fk, r⟩, kp⟩ := F
  exact ⟨⟨fd, ps, hl, Fk.mono h, r⟩, kp⟩
end Zw

namespace Zw
open PySem L2 PyProof.Rows PySem.Spec ClX
/-! ### a call's values by the parameters' names -/
def bindKw {α : Type} (ps : List Str) : List (Str × α) → List (Str × α) → Option (List (Str × α))
  | sl, [] => some sl
  | sl, (k, v) :: r => if ps.contains k = true ∧ (sl.lookup k).isSome = false then bindKw ps (sl ++ [(k, v)]) r else none
def bindDf {α : Type} : List (Str × α) → List (Str × α) → List (Str × α)
  | sl, [] => sl
  | sl, (k, d) :: r => bindDf (if (sl.lookup k).isNone = true then sl ++ [(k, d)] else sl) r
def lookAll {α : Type} (sl : List (Str × α)) : List Str → Option (List α)
  | [] => some []
  | p :: ps => match sl.lookup p, lookAll sl ps with
    | some v, some vs => some (v :: vs)
    | _, _ => none
def bindAll {α : Type} (ps : List Str) (us : List α) (kw : List (Str × α)) (dfl : List α) : Option (List α) :=
  if us.length ≤ ps.length ∧ dfl.length ≤ ps.length then (match bindKw ps (ps.zip us) kw with
    | some sl => if ((ps.take (ps.length - dfl.length)).all fun n => (sl.lookup n).isSome) = true then lookAll (bindDf sl ((ps.drop (ps.length - dfl.length)).zip dfl)) ps else none
    | none => none) else none
theorem kw_loop {names : List Str} {f : Str × Value → List (Str × Value) × List (Str × Value) → Sem (ForInStep (List (Str × Value) × List (Str × Value)))}
    (hf : ∀ k v sl, names.contains k = true → (sl.lookup k).isSome = false → f (k, v) (sl, []) = pure (.yield (sl ++ [(k, v)], []))) :
    ∀ (kw sl sl' : List (Str × Value)), bindKw names sl kw = some sl' → forIn kw (sl, []) f = pure (sl', [])
  | [], sl, sl', h => by cases h; rw [List.forIn_nil]
  | (k, v) :: r, sl, sl', h => by
    unfold bindKw at h
    by_cases z : names.contains k = true ∧ (sl.lookup k).isSome = false
    · rw [if_pos z] at h
      rw [List.forIn_cons, hf k v sl z.1 z.2, pure_bind]
      exact kw_loop hf r _ _ h
    · rw [if_neg z] at h; cases h
theorem df_loop {f : Str × Value → List (Str × Value) → Sem (ForInStep (List (Str × Value)))}
    (hf : ∀ k v sl, f (k, v) sl = pure (.yield (if (sl.lookup k).isNone = true then sl ++ [(k, v)] else sl))) :
    ∀ (ds sl : List (Str × Value)), forIn ds sl f = pure (bindDf sl ds)
  | [], sl => by rw [List.forIn_nil]; rfl
  | (k, v) :: r, sl => by
    rw [List.forIn_cons, hf, pure_bind]
    exact df_loop hf r _
theorem look_filter {α : Type} {sl : List (Str × α)} : ∀ {ps : List Str} {vs : List α}, lookAll sl ps = some vs → ps.filterMap (fun n => (sl.lookup n).map (n, ·)) = ps.zip vs
  | [], vs, h => by cases h; rfl
  | p :: ps, vs, h => by
    unfold lookAll at h
    split at h
    · rename_i v vs' h1 h2
      cases h
      rw [List.filterMap_cons, h1]
      show (p, v) :: _ = _
      rw [look_filter h2]; rfl
    · cases h
theorem all_filter {α : Type} {sl : List (Str × α)} : ∀ {ps : List Str}, (ps.all fun n => (sl.lookup n).isSome) = true → (ps.filter fun n => (sl.lookup n).isNone) = []
  | [], _ => rfl
  | p :: ps, h => by
    rw [List.all_cons, Bool.and_eq_true] at h
    have h1 : (sl.lookup p).isNone = false := by
      cases e : sl.lookup p with
      | none => rw [e] at h; cases h.1
      | some _ => rfl
    rw [List.filter_cons, h1]
    exact all_filter h.2
theorem binds_all {K : PySem.W.Frag} {x qual : Str} {args : List Arg} {defs : List Expr} {body : List Stmt} {scope : Scope} {dV kV doc pm : Value} {an : Option Addr} {cdv ct : Value} {dvs : List V} {ps : List Str} (hD : DflV K dV dvs) (hps : args.map (·.arg) = ps) :
    ∃ ds, Vals dvs ds ∧ ∀ (M : Model) (h : Heap), K.In h → ∀ (us : List Value) (kw : List (Str × Value)) (vals : List Value), bindAll ps us kw ds = some vals → PySem.W.Looks M h (bindArgs (PySem.W.fnOf x qual ⟨[], args, none, [], [], none, defs⟩ body scope dV kV doc pm an cdv ct) ⟨us, kw⟩) (ps.zip vals) := by
  have core : ∀ (o : Option (Array Value)) (us : List Value) (kw : List (Str × Value)) (vals : List Value), bindAll ps us kw (o.getD #[]).toList = some vals →
      ∃ k, bindArgs (PySem.W.fnOf x qual ⟨[], args, none, [], [], none, defs⟩ body scope dV kV doc pm an cdv ct) ⟨us, kw⟩ = seqItems? dV >>= k ∧ k o = pure (ps.zip vals) := fun o us kw vals hb => by
    unfold bindAll at hb
    by_cases z : us.length ≤ ps.length ∧ (o.getD #[]).toList.length ≤ ps.length
    case neg => rw [if_neg z] at hb; cases hb
    rw [if_pos z] at hb
    cases e1 : bindKw ps (ps.zip us) kw with
    | none => rw [e1] at hb; cases hb
    | some sl =>
      rw [e1] at hb
      dsimp only at hb
      by_cases z2 : ((ps.take (ps.length - (o.getD #[]).toList.length)).all fun n => (sl.lookup n).isSome) = true
      case neg => rw [if_neg z2] at hb; cases hb
      rw [if_pos z2] at hb
      unfold bindArgs PySem.W.fnOf
      dsimp only
      simp only [List.map_nil, List.nil_append, List.forIn_nil, pure_bind, hps]
      rw [kw_loop (names := ps) (fun k v sl h1 h2 => by
        dsimp only
        rw [if_pos (by rw [h1]; rfl), if_neg (by rw [h2]; decide)]) kw (ps.zip us) sl e1, pure_bind]
      refine ⟨_, rfl, ?_⟩
      dsimp only
      have n1 : ¬ (decide (us.length > ps.length) && (none : Option Arg).isNone) = true := by
        simp; omega
      have n2 : (o.getD #[]).toList.length - ps.length = 0 := by omega
      rw [if_neg n1]
      simp only [n2, List.drop_zero]
      rw [all_filter z2]
      simp only [List.isEmpty_nil, Bool.not_true, Bool.false_eq_true, if_false]
      rw [df_loop (fun k v sl => by
        dsimp only
        split <;> rfl)]
      simp only [pure_bind, List.append_nil, look_filter hb]
  rcases hD with ⟨rfl, rfl⟩ | ⟨_, T, ob, its, m, rfl, lT, oT, rT⟩
  · refine ⟨[], .nil, fun M h X us kw vals hb => ?_⟩
    obtain ⟨k, e1, e2⟩ := core none us kw vals hb
    rw [e1]
    refine PySem.W.Looks.of_pure ?_
    show (pure none >>= k) = _
    rw [pure_bind]; exact e2
  · refine ⟨its, rT, fun M h X us kw vals hb => ?_⟩
    obtain ⟨k, e1, e2⟩ := core (some its.toArray) us kw vals (by simpa using hb)
    rw [e1]
    exact looks_items X lT oT (.of_pure e2)
/-! related values -/
inductive SlP {α β : Type} (R : α → β → Prop) : List (Str × α) → List (Str × β) → Prop where
  | nil : SlP R [] []
  | cons {k : Str} {a : α} {b : β} {l : List (Str × α)} {m : List (Str × β)} (r : R a b) (t : SlP R l m) : SlP R ((k, a) :: l) ((k, b) :: m)
inductive All2 {α β : Type} (R : α → β → Prop) : List α → List β → Prop where
  | nil : All2 R [] []
  | cons {a : α} {b : β} {l : List α} {m : List β} (r : R a b) (t : All2 R l m) : All2 R (a :: l) (b :: m)
section
variable {α β : Type} {R : α → β → Prop}
theorem All2.length : ∀ {l : List α} {m : List β}, All2 R l m → l.length = m.length
  | _, _, .nil => rfl
  | _, _, .cons _ t => congrArg Nat.succ t.length
theorem SlP.look {k : Str} : ∀ {l : List (Str × α)} {m : List (Str × β)}, SlP R l m → (l.lookup k = none ∧ m.lookup k = none) ∨ ∃ a b, l.lookup k = some a ∧ m.lookup k = some b ∧ R a b
  | _, _, .nil => .inl ⟨rfl, rfl⟩
  | (k', a) :: l, (_, b) :: m, .cons r t => by
    simp only [List.lookup_cons]
    cases e : (k == k') with
    | true => exact .inr ⟨a, b, rfl, rfl, r⟩
    | false => exact SlP.look t
theorem SlP.app {l l' : List (Str × α)} {m m' : List (Str × β)} (h : SlP R l m) (h' : SlP R l' m') : SlP R (l ++ l') (m ++ m') := by
  induction h with
  | nil => exact h'
  | cons r t ih => exact .cons r ih
theorem SlP.zip : ∀ {ps : List Str} {l : List α} {m : List β}, All2 R l m → SlP R (ps.zip l) (ps.zip m)
  | [], _, _, _ => .nil
  | _ :: _, _, _, .nil => .nil
  | _ :: ps, _, _, .cons r t => .cons r (SlP.zip (ps := ps) t)
theorem SlP.some {k : Str} {l : List (Str × α)} {m : List (Str × β)} (h : SlP R l m) : (l.lookup k).isSome = (m.lookup k).isSome := by
  rcases h.look (k := k) with ⟨e1, e2⟩ | ⟨a, b, e1, e2, _⟩ <;> simp [e1, e2]
theorem SlP.none {k : Str} {l : List (Str × α)} {m : List (Str × β)} (h : SlP R l m) : (l.lookup k).isNone = (m.lookup k).isNone := by
  rcases h.look (k := k) with ⟨e1, e2⟩ | ⟨a, b, e1, e2, _⟩ <;> simp [e1, e2]
theorem SlP.kw {ps : List Str} {kw : List (Str × α)} {kw' : List (Str × β)} (h : SlP R kw kw') : ∀ {l : List (Str × α)} {m : List (Str × β)} {sl : List (Str × α)}, SlP R l m → bindKw ps l kw = Option.some sl → ∃ sm, bindKw ps m kw' = Option.some sm ∧ SlP R sl sm := by
  induction h with
  | nil => intro l m sl hl e; cases e; exact ⟨m, rfl, hl⟩
  | @cons k a b kw kw' r t ih =>
    intro l m sl hl e
    unfold bindKw at e ⊢
    rw [hl.some] at e
    by_cases z : ps.contains k = true ∧ (m.lookup k).isSome = false
    · rw [if_pos z] at e ⊢
      exact ih (hl.app (.cons r .nil)) e
    · rw [if_neg z] at e; cases e
theorem SlP.df {ds : List (Str × α)} {ds' : List (Str × β)} (h : SlP R ds ds') : ∀ {l : List (Str × α)} {m : List (Str × β)}, SlP R l m → SlP R (bindDf l ds) (bindDf m ds') := by
  induction h with
  | nil => exact fun hl => hl
  | @cons k a b ds ds' r t ih =>
    intro l m hl
    unfold bindDf
    rw [hl.none]
    split
    · exact ih (hl.app (.cons r .nil))
    · exact ih hl
theorem SlP.all {l : List (Str × α)} {m : List (Str × β)} (h : SlP R l m) : ∀ {ps : List Str} {vs : List α}, lookAll l ps = Option.some vs → ∃ ws, lookAll m ps = Option.some ws ∧ All2 R vs ws
  | [], vs, e => by cases e; exact ⟨[], rfl, .nil⟩
  | p :: ps, vs, e => by
    unfold lookAll at e
    split at e
    · rename_i v vs' h1 h2
      cases e
      obtain ⟨ws, k1, k2⟩ := SlP.all h h2
      rcases h.look (k := p) with ⟨e1, e2⟩ | ⟨a, b, e1, e2, r⟩
      · rw [e1] at h1; cases h1
      · rw [e1] at h1; cases h1
        exact ⟨b :: ws, by unfold lookAll; rw [e2, k1], .cons r k2⟩
    · cases e
theorem bind_rel {ps : List Str} {us : List α} {us' : List β} {kw : List (Str × α)} {kw' : List (Str × β)} {df : List α} {df' : List β} {vs : List α} (hu : All2 R us us') (hk : SlP R kw kw') (hd : All2 R df df') (h : bindAll ps us kw df = some vs) : ∃ ws, bindAll ps us' kw' df' = some ws ∧ All2 R vs ws := by
  unfold bindAll at h ⊢
  rw [hu.length, hd.length] at h
  by_cases z : us'.length ≤ ps.length ∧ df'.length ≤ ps.length
  case neg => rw [if_neg z] at h; cases h
  rw [if_pos z] at h ⊢
  cases e1 : bindKw ps (ps.zip us) kw with
  | none => rw [e1] at h; cases h
  | some sl =>
    rw [e1] at h
    obtain ⟨sm, e2, r2⟩ := hk.kw (SlP.zip hu) e1
    rw [e2]
    dsimp only at h ⊢
    have ea : ((ps.take (ps.length - df'.length)).all fun n => (sl.lookup n).isSome) = ((ps.take (ps.length - df'.length)).all fun n => (sm.lookup n).isSome) := by
      congr 1
      funext n
      exact r2.some
    rw [ea] at h
    by_cases z2 : ((ps.take (ps.length - df'.length)).all fun n => (sm.lookup n).isSome) = true
    · rw [if_pos z2] at h ⊢
      exact (SlP.df (SlP.zip hd) r2).all h
    · rw [if_neg z2] at h; cases h
theorem look_len {sl : List (Str × α)} : ∀ {ps : List Str} {vs : List α}, lookAll sl ps = some vs → vs.length = ps.length
  | [], vs, e => by cases e; rfl
  | p :: ps, vs, e => by
    unfold lookAll at e
    split at e
    · rename_i v vs' h1 h2
      cases e
      exact congrArg Nat.succ (look_len h2)
    · cases e
theorem bind_len {ps : List Str} {us : List α} {kw : List (Str × α)} {df vs : List α} (h : bindAll ps us kw df = some vs) : vs.length = ps.length := by
  unfold bindAll at h
  split at h
  · split at h
    · split at h
      · exact look_len h
      · cases h
    · cases h
  · cases h
end
/-- a def that is called by places or by names -/
structure FnK (D : Md) (k : Nat) (f : Addr) (ps : List Str) (dfl : List Dat) (sp : Sp) : Prop where
  ex : ∃ fd, FnOk D.P D.w D.K D.mg D.base (CX D.P D.w) k f fd ps sp ∧ ∃ dvs ds, Vals dvs ds ∧ (∀ g, RepsG D.K g dvs dfl) ∧ ∀ (sh : Shared) (us : List Value) (kw : List (Str × Value)) (vals : List Value), D.K.In sh.heap → bindAll ps us kw ds = some vals → BindsTo sh fd ⟨us, kw⟩ (ps.zip vals)
  kp : PySem.W.keepIn D.K (.ref f) = true
end Zw

namespace Zw
open PySem L2 PyProof.Rows PySem.Spec ClX

/-! ### the text's tables -/
inductive Att where
  | meth (q : Str) | stat (q : Str) | clsm (q : Str) | prop (q : Str) | con (d : Dat) | dflt
structure ClsI where
  att : List (Str × Att)
  flds : List Str
  sup : List Str
  ip : Bool
structure FnI where
  con : Con
  par : Nat
  dfl : List Dat
  adr : PySem.W.Frag → Addr
  ps : List Str
/-- an exception class: the parameters of its __init__ (they are its fields), its def, the classes that it is below -/
structure ExI where
  qs : List Str
  adr : Option (PySem.W.Frag → Addr)
  sup : List Str
/-- a def that is handed a lambda: what it gives -/
structure LamI where
  con : LCon → List (Option Dat) → Res
  adr : PySem.W.Frag → Addr
structure En where
  fn : Str → Option FnI
  ini : Str → Option FnI
  cl : Str → Option ClsI
  glo : Str → Option Dat
  free : Str → Bool
  top : Str → Bool
  ex : Str → Option ExI
  lamf : Str → Option LamI
def En.att (E : En) (c f : Str) : Option Att := (E.cl c).bind fun ci => ci.att.lookup f
def En.fld (E : En) (c f : Str) : Bool := match E.cl c with
  | some ci => decide (f ∈ ci.flds)
  | none => false
def En.has (E : En) (c f : Str) : Bool := match E.cl c with
  | some ci => decide (f ∈ ci.sup)
  | none => false
/-- a def called with values: the defaults behind them -/
def FnI.run (fi : FnI) (ds : List Dat) : M Dat := if fi.par - fi.dfl.length ≤ ds.length ∧ ds.length ≤ fi.par then callM fi.con (ds ++ fi.dfl.drop (ds.length + fi.dfl.length - fi.par)) else fail
/-- a run that lets no exception out -/
def calm {α : Type} (m : M α) : M α := fun s => match m s with
  | .exc _ _ => .stuck
  | o => o
def En.call (E : En) (q : Str) (ds : List Dat) : M Dat := match E.fn q with
  | some fi => fi.run ds
  | none => fail
def FnIOk (D : Md) (k : Nat) (fi : FnI) : Prop := fi.dfl.length ≤ fi.par ∧ ∀ n, fi.par - fi.dfl.length ≤ n → n ≤ fi.par → FnIs D k (fi.adr D.K) n (fi.dfl.drop (n + fi.dfl.length - fi.par)) fi.con
/-- the promise of an __init__: the object's fields -/
def spInit (K : PySem.W.Frag) (n : Nat) (c : Con) : Sp := fun vs H Q E => vs.length = n ∧ ∃ x rest g cs d0 ds, vs = .ref x :: rest ∧ GRel K g cs H ∧ CellOk K g H x d0 ∧ g.P x = none ∧ ¬ x ∈ g.io ∧ RepsG K g rest ds ∧ match c (d0 :: ds) cs with
  | .ret d cs' => ∀ g' H', GExt [x] g cs H g' cs' H' → GRel K g' cs' H' → CellOk K g' H' x d → g'.P x = none → ¬ x ∈ g'.io → Q .non H'
  | .exc e cs' => ∀ g' H' cls dd, GExt [x] g cs H g' cs' H' → GRel K g' cs' H' → XRep K g' cls dd e → E cls dd H'
  | .stuck => False
/-- the same for its def: n values behind self -/
structure InIs (D : Md) (k : Nat) (f : Addr) (n : Nat) (dfl : List Dat) (c : Con) : Prop where
  ex : ∃ fd ps, ps.length = n + 1 + dfl.length ∧ FnOk D.P D.w D.K D.mg D.base (CX D.P D.w) k f fd ps (spInit D.K ps.length c) ∧
    ∃ dvs ds, Vals dvs ds ∧ (∀ g, RepsG D.K g dvs dfl) ∧ ∀ (sh : Shared) (us : List Value), D.K.In sh.heap → us.length = n + 1 → BindsTo sh fd ⟨us, []⟩ (ps.zip (us ++ ds))
def InIOk (D : Md) (k : Nat) (fi : FnI) : Prop := fi.dfl.length + 1 ≤ fi.par ∧ ∀ n, fi.par - fi.dfl.length ≤ n + 1 → n + 1 ≤ fi.par → InIs D k (fi.adr D.K) n (fi.dfl.drop (n + 1 + fi.dfl.length - fi.par)) fi.con
/-- object's own comparisons -/
def dfltId (f : Str) : String := if f = "__eq__" then "object.__eq__" else if f = "__ne__" then "object.__ne__" else if f = "__lt__" then "object.__lt__" else if f = "__le__" then "object.__le__" else if f = "__gt__" then "object.__gt__" else "object.__ge__"
def AttOk (D : Md) (E : En) (c f : Str) : Att → Prop
  | .meth q => ∃ fi, E.fn q = some fi ∧ Meth D.K (He.ga D.K c) f (fi.adr D.K)
  | .prop q => ∃ fi p, E.fn q = some fi ∧ PropOf D.K (He.ga D.K c) f p (fi.adr D.K)
  | .dflt => f ∈ (["__eq__", "__ne__", "__lt__", "__le__", "__gt__", "__ge__"] : List Str) ∧ PySem.W.findIn D.K (.ref (He.ga D.K c)) f = some (some (.builtin (dfltId f)))
  | .con d => ∃ v u, L2.Con D.K (He.ga D.K c) f v u ∧ ∀ g, RepG D.K g v d
  | .stat q => ∃ fi p mc rest, E.fn q = some fi ∧ CRead D.K (He.ga D.K c) mc ∧ PySem.W.findCls D.K (.ref (He.ga D.K c)) mc f = some (.get (.builtin "staticmethod.__get__") (.ref p) .none (.ref (He.ga D.K c))) ∧ PySem.W.recIn D.K p "staticmethod" = some (.ref (fi.adr D.K) :: rest)
  | .clsm q => ∃ fi p mc, E.fn q = some fi ∧ CRead D.K (He.ga D.K c) mc ∧ CMet D.K (He.ga D.K c) mc f p (fi.adr D.K)
def plainTys : List String := ["NoneType", "bool", "int", "str", "tuple", "list", "dict"]
def opNames : List String := ["add", "sub", "mul", "floordiv", "mod"]
/-- no class below or at C has the in-place form -/
def noInp (K : PySem.W.Frag) (C : Addr) (nm : String) : Bool := match PySem.W.clsIn K C with
  | some cd => cd.mro.all fun t => He.eqO (PySem.W.findIn K t (dunderI nm)) (some none)
  | none => false
/-- what the class's operators ask -/
structure ClsMore (D : Md) (E : En) (c : Str) (ci : ClsI) : Prop where
  ca : PySem.W.findIn D.K (.ref (He.ga D.K c)) "__class__" = some (some (.builtin "object.__class__"))
  cm : PySem.W.mroIn D.K (He.ga D.K c) (.type "object") = some true
  ic : ((PySem.W.clsIn D.K (He.ga D.K c)).isSome && PySem.W.typeIn D.K (.ref (He.ga D.K c)) == some (.type "type")) = true
  sub : ∀ c' ci', E.cl c' = some ci' → PySem.W.subIn D.K (.ref (He.ga D.K c)) (.ref (He.ga D.K c')) = some (decide (c' ∈ ci.sup))
  ne : ∀ c' ci', E.cl c' = some ci' → c ≠ c' → He.ga D.K c ≠ He.ga D.K c'
  io : ∀ T ∈ plainTys, PySem.W.subIn D.K (.ref (He.ga D.K c)) (.type T) = some false
  os : ∀ T ∈ plainTys, PySem.W.subIn D.K (.type T) (.ref (He.ga D.K c)) = some false
  ops : ∀ nm ∈ opNames, ∃ rc, PySem.W.findIn D.K (.ref (He.ga D.K c)) (dunderR nm) = some rc ∧ (rc = none ∨ ∃ g : Addr, rc = some (.ref g))
  nsq : PySem.W.noSeq D.K (He.ga D.K c) = true
  ip : ci.ip = true → ∀ nm ∈ opNames, noInp D.K (He.ga D.K c) nm = true
  fm : PySem.W.findIn D.K (.ref (He.ga D.K c)) "__format__" = some (some (.builtin "object.__format__"))
/-- what the text's built-in types ask -/
structure TyMore (K : PySem.W.Frag) : Prop where
  cn : PySem.W.specialIn K (.builtin "object.__class__") "__get__" = some (some (.builtin "getset_descriptor.__get__"))
  ct : PySem.W.takesIn K (.builtin "object.__class__") = some true
  sm : ∃ o es n, K.lookup sysModules = some o ∧ o.data = .dict es n
  ity : ∀ nm ∈ opNames, ∃ fo ro, PySem.W.findIn K (.type "int") (dunder nm) = some fo ∧ PySem.W.findIn K (.type "int") (dunderR nm) = some ro
structure ClsOk (D : Md) (k : Nat) (E : En) (c : Str) (ci : ClsI) : Prop where
  cls : Cls D.K (He.ga D.K c)
  glo : D.mg c = some (.ref (He.ga D.K c))
  sf : PySem.W.selfFirst D.K (He.ga D.K c) = true
  flds : ∀ f ∈ ci.flds, NoAttr D.K (He.ga D.K c) f
  att : ∀ f a, ci.att.lookup f = some a → AttOk D E c f a
  more : ClsMore D E c ci
/-- the fields of an exception, the last first -/
def exFs {α : Type} (qs : List Str) (vs : List α) : List (Str × α) := (qs.zip vs).reverse
/-- the promise of an exception's __init__ -/
def spXi (K : PySem.W.Frag) (qs : List Str) : Sp := fun vs H Q E => ∃ (a C : Addr) (ws : List V), vs = .ref a :: ws ∧ ws.length = qs.length ∧ OexC K C ∧ (∀ q ∈ qs, PySem.W.findIn K (.ref C) q = some none) ∧ H a = some (exo a C none) ∧
  ∀ d, H d = none → d ≠ a → Q .non (upd (upd H d (exd d (exFs qs ws))) a (exo a C (some d)))
def veB : List Value := [.type "ValueError", .type "Exception", .type "BaseException", .type "object"]
/-- how an exception is made -/
def XMk (D : Md) (k : Nat) (c : Str) (qs : List Str) : Option (PySem.W.Frag → Addr) → Prop
  | none => qs = [] ∧ PySem.W.excIn D.K (He.ga D.K c) veB "ValueError.__new__" = true
  | some adr => qs ≠ [] ∧ qs.length ≤ 900 ∧ OexC D.K (He.ga D.K c) ∧ PySem.W.findIn D.K (.ref (He.ga D.K c)) "__init__" = some (some (.ref (adr D.K))) ∧ PySem.W.typeIn D.K (.ref (adr D.K)) = some (.type "function") ∧
      ∃ fd s0, L2.FnOk D.P D.w D.K D.mg D.base (CX D.P D.w) (k + 1) (adr D.K) fd (s0 :: qs) (spXi D.K qs) ∧ Binds D.K fd (s0 :: qs) []
structure ExOk (D : Md) (k : Nat) (E : En) (c : Str) (xi : ExI) : Prop where
  glo : D.mg c = some (.ref (He.ga D.K c))
  kp : PySem.W.keepIn D.K (.ref (He.ga D.K c)) = true
  cls : ExcC D.K (He.ga D.K c)
  ty : PySem.W.typeIn D.K (.ref (He.ga D.K c)) = some (.type "type")
  ve : PySem.W.subIn D.K (.ref (He.ga D.K c)) (.type "ValueError") = some true
  sub : ∀ c' xi', E.ex c' = some xi' → PySem.W.subIn D.K (.ref (He.ga D.K c)) (.ref (He.ga D.K c')) = some (decide (c' ∈ xi.sup))
  own : ∀ c' ci', E.cl c' = some ci' → PySem.W.subIn D.K (.ref (He.ga D.K c)) (.ref (He.ga D.K c')) = some false ∧ PySem.W.subIn D.K (.ref (He.ga D.K c')) (.ref (He.ga D.K c)) = some false
  io : ∀ T ∈ plainTys, PySem.W.subIn D.K (.ref (He.ga D.K c)) (.type T) = some false ∧ PySem.W.subIn D.K (.type T) (.ref (He.ga D.K c)) = some false
  flds : ∀ f ∈ xi.qs, PySem.W.findIn D.K (.ref (He.ga D.K c)) f = some none
  self : c ∈ xi.sup
  made : XMk D k c xi.qs xi.adr
/-- the context of the def that got the lambda -/
def CalleeCx (D : Md) (f : Addr) (A : Around) (outer : List Env) (s : Shared) (H : Hp) (E : XK) (X' : Cx) : Prop := ∃ N qual scope cdv, X' = cxOf (CX D.P D.w) D.P D.w D.K D.mg D.base N qual scope f cdv A outer s H E
/-- what is wanted of a def's result -/
def resOk (K : PySem.W.Frag) (g : Gh) (cs : List (Option Dat)) (H : Hp) (r : Res) (Q : VK) (E : XK) : Prop := match r with
  | .ret d cs' => ∀ g' v H', GExt [] g cs H g' cs' H' → GRel K g' cs' H' → RepG K g' v d → Q v H'
  | .exc x cs' => ∀ g' H' cls dd, GExt [] g cs H g' cs' H' → GRel K g' cs' H' → XRep K g' cls dd x → E cls dd H'
  | .stuck => False
/-- the promise of a def that is handed a lambda -/
def LamFn (D : Md) (k : Nat) (f : Addr) (c : LCon → List (Option Dat) → Res) : Prop := ∀ (A : Around) (outer : List Env) (s : Shared) (H : Hp) (fl : Addr) (Q : VK) (E : XK) (g : Gh) (cs : List (Option Dat)) (lc : LCon), Room (k + 1) A → Env0 D.P D.w D.K D.mg D.base A outer s H → GRel D.K g cs H →
  (∀ X', CalleeCx D f A outer s H E X' → Room k X'.A → Callable X' ⟨[], g, cs, H, fun f' c' => f' = fl ∧ c' = lc⟩ fl lc) → resOk D.K g cs H (c lc cs) Q E →
  codeAny (model D.P D.w) A (.call (.ref f) ⟨[.ref fl], []⟩) (CR (CX D.P D.w) outer D.P D.w H s Q E) s
structure LamOk (D : Md) (k : Nat) (x : Str) (li : LamI) : Prop where
  run : ∃ k', k = k' + 1 ∧ LamFn D k' (li.adr D.K) li.con
  glo : D.mg x = some (.ref (li.adr D.K))
  kp : PySem.W.keepIn D.K (.ref (li.adr D.K)) = true
structure EnOk (D : Md) (k : Nat) (E : En) : Prop where
  fn : ∀ q fi, E.fn q = some fi → FnIOk D k fi
  ini : ∀ c fi, E.ini c = some fi → Mk D.K (He.ga D.K c) (fi.adr D.K) ∧ InIOk D k fi
  cl : ∀ c ci, E.cl c = some ci → ClsOk D k E c ci
  ty : TyMore D.K
  glo : ∀ x d, E.glo x = some d → ∃ v u, D.mg x = some u ∧ RelV v u ∧ ∀ g, RepG D.K g v d
  free : ∀ x, E.free x = true → D.mg x = none
  top : ∀ x fi, E.top x = true → E.fn x = some fi → D.mg x = some (.ref (fi.adr D.K))
  ex : ∀ c xi, E.ex c = some xi → ExOk D k E c xi
  lamf : ∀ x li, E.lamf x = some li → LamOk D k x li
  kw : ∀ q fi, E.fn q = some fi → FnK D k (fi.adr D.K) fi.ps fi.dfl (spOf D.K fi.ps.length fi.con)
  kwi : ∀ c fi, E.ini c = some fi → FnK D k (fi.adr D.K) fi.ps fi.dfl (spInit D.K fi.ps.length fi.con)

section
variable {X : Cx} {E : En} {k : Nat}
theorem vop_fi {fi : FnI} (F : FnIOk (md X) k fi) (hr : Room k X.A) : VOp X (fun us => call (.ref (fi.adr X.K)) us) fi.run := by
  intro t W tk pins sh σ H g s xs us ds Q I rv L r q
  unfold FnI.run at q
  by_cases h : fi.par - fi.dfl.length ≤ ds.length ∧ ds.length ≤ fi.par
  · rw [if_pos h] at q
    refine vop_fn (F.2 ds.length h.1 h.2) hr t W tk pins sh σ H g s xs us ds Q I rv L r ?_
    dsimp only
    rw [if_pos rfl]
    exact q
  · rw [if_neg h] at q; exact q.elim
theorem code_fi {fi : FnI} (F : FnIOk (md X) k fi) (hr : Room k X.A) {t : Ent} {W : WX} (tk : TakesE X t W) {pins : List (Addr × Obj)} {sh : Shared} {σ : L2.St} {H : Hp} {g : Gh} {s : Sto} {xs : List V} {us : List Value} {ds : List Dat} {Q : VK}
    (I : Inv X pins σ H sh) (rv : Vals xs us) (L : LRel X.K t g s σ H) (r : RepsG X.K g xs ds) (q : atE X.K t W g s σ H (fi.run ds s) Q) : codeAny (model X.prog X.w) X.A (.call (.ref (fi.adr X.K)) ⟨us, []⟩) (wants (EP X pins σ Q) X.xe) sh := by
  unfold FnI.run at q
  by_cases h : fi.par - fi.dfl.length ≤ ds.length ∧ ds.length ≤ fi.par
  · rw [if_pos h] at q
    exact code_fn (F.2 ds.length h.1 h.2) hr tk I rv L r rfl q
  · rw [if_neg h] at q; exact q.elim
theorem VOp.fail {f : List Value → Sem Value} : VOp X f (fun _ => fail) := fun _ _ _ _ _ _ _ _ _ _ _ _ _ _ _ _ _ q => q.elim

/-! ### fields -/
theorem lookup_rep {K : PySem.W.Frag} {P : Hp} {io : List Addr} {f : Str} : ∀ {fs : List (Str × V)} {ds : List (Str × Dat)}, ds.map (·.1) = fs.map (·.1) → Reps K P io (fs.map (·.2)) (ds.map (·.2)) →
    (∀ d, ds.lookup f = some d → ∃ v, fs.lookup f = some v ∧ Rep K P io v d) ∧ (ds.lookup f = none → fs.lookup f = none)
  | [], [], _, _ => ⟨fun d e => by simp at e, fun _ => rfl⟩
  | [], _ :: _, k, _ => by simp at k
  | _ :: _, [], k, _ => by simp at k
  | (a, v) :: fs, (b, d) :: ds, k, r => by
    simp only [List.map_cons, List.cons.injEq] at k
    obtain ⟨k1, k2⟩ := k
    subst k1
    cases r with
    | cons r1 r2 =>
      have ih := lookup_rep (f := f) k2 r2
      simp only [List.lookup_cons]
      cases e : (f == b) with
      | true => exact ⟨fun d' z => by cases z; exact ⟨v, rfl, r1⟩, fun z => by cases z⟩
      | false => exact ih
/-- x.f of an instance: a field, a property, a constant of the class -/
def En.get (E : En) (x : Dat) (f : Str) : M Dat := match x with
  | .ins c fs => (match E.att c f with
    | some (.prop q) => calm (E.call q [x])
    | some (.con d) => (match fs.lookup f with
      | none => pur d
      | some _ => fail)
    | some _ => fail
    | none => (match fs.lookup f with
      | some d => if E.fld c f = true then pur d else fail
      | none => fail))
  | _ => fail
theorem En.att_some {c f : Str} {a : Att} (h : E.att c f = some a) : ∃ ci, E.cl c = some ci ∧ ci.att.lookup f = some a := Option.bind_eq_some_iff.mp h
theorem En.fld_some {c f : Str} (h : E.fld c f = true) : ∃ ci, E.cl c = some ci ∧ f ∈ ci.flds := by
  unfold En.fld at h
  cases e : E.cl c with
  | none => rw [e] at h; cases h
  | some ci => rw [e] at h; exact ⟨ci, rfl, of_decide_eq_true h⟩
theorem getprop_at {C p gf a dx : Addr} {fs : List (Str × V)} {f : Str} {dfl : List Dat} {c : Con} {b : Bool} {t : Ent} {W : WX} (tk : TakesE X t W) {pins : List (Addr × Obj)} {σ : L2.St} {H : Hp} {sh : Shared} {g : Gh} {s : Sto} {d : Dat} {Q : VK} (I : Inv X pins σ H sh) (L : LRel X.K t g s σ H) (ea : H a = some (.ins C dx fs)) (cl : Cls X.K C) (hp : PropOf X.K C f p gf)
    (F : FnIs (md X) k gf 1 dfl c) (hr : Room (k + 1) X.A) (r : RepG X.K g (.ref a) d) (q : atE X.K t W g s σ H (calm (callM c (d :: dfl)) s) Q) : wpAny (model X.prog X.w) X.A (getAttr (.ref a) f b) (EP X pins σ Q) X.xe sh := by
  obtain ⟨mA, O, _, _, _, _⟩ := ins_get I.hok ea
  obtain ⟨od, J, _⟩ := O.look
  obtain ⟨rest, hrec⟩ := hp.rec_
  have I1 := I.tok (sh.toks + 1)
  obtain ⟨fd, ps, hl, Fk, dvs, dv, rd, rg, hb⟩ := F.ex
  have hc : (PySem.W.clsIn X.K C).isSome = true := by
    obtain ⟨cd, hc, _⟩ := PySem.W.any_some cl.hd
    rw [hc]
    rfl
  have sp : spOf X.K ps.length c (.ref a :: dvs) H Q (fun _ _ _ => False) := by
    refine ⟨by rw [List.length_cons, (rg g).length, hl]; omega, g, s.cs, d :: dfl, L.gr, .cons r (rg g), ?_⟩
    unfold calm callM at q
    cases e : c (d :: dfl) s.cs with
    | ret d cs' => rw [e] at q; exact fun g' v H' e' gr r' => q g' v H' e'.toEK (L.call e' gr) r'
    | exc x cs' => rw [e] at q; exact q.elim
    | stuck => rw [e] at q; exact q.elim
  refine PySem.W.get_bind I.kIn J (PySem.W.plainGet_of (cl.get f)).1 (PySem.W.findObj_data hc hp.at_ hp.get hp.tak) (PySem.W.plainGet_of (cl.get f)).2 (wpAny_call (PySem.W.prop_get (s := { sh with toks := sh.toks + 1 }) I.kIn hrec ?_))
  refine codeAny_mono (Fk.run X.A.in1 X.stack { sh with toks := sh.toks + 1 } H ⟨[.ref a], []⟩ (.ref a :: dv) (.ref a :: dvs) Q (fun _ _ _ => False) hr.in1 I1.env0.in1 (hb _ [.ref a] I1.kIn rfl) (.cons rfl rd) sp) fun r s' hq => ?_
  cases r with
  | error er =>
    obtain ⟨_, _, _, _, _, _, _, _, _, _, _, _, z⟩ := hq
    exact z.elim
  | ok fl =>
    cases fl with
    | ret u =>
      obtain ⟨v, H', I3, rv, q3⟩ := I1.after hq
      show wpAny _ _ (handedOut u) _ _ _
      rw [PySem.W.handedOut_of (handed_of rv)]
      exact wpAny_pure ⟨v, H', I3, rv, q3⟩
    | next => exact False.elim hq
    | brk => exact False.elim hq
    | cont => exact False.elim hq
theorem vop_get (N : EnOk (md X) k E) (hr : Room (k + 1) X.A) {f : Str} {b : Bool} : VOp X (fun us => match us with | [u] => getAttr u f b | _ => pure .none) (fun ds => match ds with | [x] => E.get x f | _ => fail) := by
  intro t W tk pins sh σ H g s xs us ds Q I rv L r q
  match xs, us, ds, rv, r, q with
  | [x], [u], [d], .cons rv .nil, .cons r .nil, q =>
    dsimp only at q ⊢
    cases r with
    | @ins a dx c fs ds h kk r =>
      obtain rfl : u = Value.ref a := rv
      have ha : H a = some (.ins (He.ga X.K c) dx fs) := L.gr.sub.at_ h rfl
      have lk := lookup_rep (f := f) kk r
      unfold En.get at q
      dsimp only at q
      cases ea : E.att c f with
      | none =>
        rw [ea] at q
        dsimp only at q
        cases el : ds.lookup f with
        | none => rw [el] at q; exact q.elim
        | some d =>
          rw [el] at q
          dsimp only at q
          cases ef : E.fld c f with
          | false => rw [ef] at q; exact q.elim
          | true =>
            rw [ef] at q
            obtain ⟨ci, e1, e2⟩ := En.fld_some ef
            obtain ⟨v, h1, h2⟩ := lk.1 d el
            exact getattr_ok I ha (N.cl c ci e1).cls ((N.cl c ci e1).flds f e2) h1 fun u s' I' rv => ⟨v, H, I', rv, at_here L q h2⟩
      | some at_ =>
        rw [ea] at q
        obtain ⟨ci, e1, e2⟩ := En.att_some ea
        have A := (N.cl c ci e1).att f at_ e2
        cases at_ with
        | con dc =>
          dsimp only at q
          cases el : ds.lookup f with
          | some d => rw [el] at q; exact q.elim
          | none =>
            rw [el] at q
            obtain ⟨v, u, h1, h2⟩ := A
            exact getcon_ok I ha (N.cl c ci e1).cls h1 (lk.2 el) fun s' I' => ⟨v, H, I', h1.rel, at_here L q (h2 g)⟩
        | prop qn =>
          dsimp only at q
          obtain ⟨fi, p, h1, h2⟩ := A
          unfold En.call at q
          rw [h1] at q
          dsimp only [FnI.run] at q
          have F : FnIOk (md X) k fi := N.fn qn fi h1
          by_cases hh : fi.par - fi.dfl.length ≤ 1 ∧ 1 ≤ fi.par
          · rw [if_pos (by simpa using hh)] at q
            exact getprop_at (k := k) tk I L ha (N.cl c ci e1).cls h2 (F.2 1 hh.1 hh.2) hr (.ins h kk r) q
          · rw [if_neg (by simpa using hh)] at q; exact q.elim
        | dflt => exact q.elim
        | meth q' => exact q.elim
        | stat q' => exact q.elim
        | clsm q' => exact q.elim
    | _ => exact q.elim
  | [], _, _, .nil, .nil, q => exact q.elim
  | _ :: _ :: _, _, _, .cons _ (.cons _ _), .cons _ (.cons _ _), q => exact q.elim
/-- e.f -/
theorem ge_attr {e : Expr} {f : Str} {pos : Pos} {me : M Dat} {mf : Dat → M Dat} (he : GE X e me) (ho : VOp X (fun us => match us with | [u] => getAttr u f true | _ => pure .none) (fun ds => match ds with | [x] => mf x | _ => fail)) (hb : attributeBase e f X.env (eval e X.env) = eval e X.env) :
    GE X (.Attribute e f pos) (bnd me mf) :=
  GE.of fun t W tk pins sh σ H g s Q I L q => attr_of hb (he.seq tk I L q fun u sh1 v g1 s1 H1 d I1 rv e1 L1 r1 q1 => ho t W tk pins sh1 σ H1 g1 s1 [v] [u] [d] Q I1 (.cons rv .nil) L1 (.cons r1 .nil) q1)
end
end Zw

namespace Zw
open PySem L2 PyProof.Rows PySem.Spec

section
variable {X : Cx} {E : En} {k : Nat}
/-! ### a new instance -/
def En.make (E : En) (c : Str) (ds : List Dat) : M Dat := match E.ini c with
  | some fi => if fi.par - fi.dfl.length ≤ ds.length + 1 ∧ ds.length + 1 ≤ fi.par then callM fi.con (Dat.ins c [] :: (ds ++ fi.dfl.drop (ds.length + 1 + fi.dfl.length - fi.par))) else fail
  | none => fail
/-- the state with a new instance at x that is not yet in P -/
theorem GRel.new {K : PySem.W.Frag} {g : Gh} {cs : List (Option Dat)} {H : Hp} {x dx C : Addr} (gr : GRel K g cs H) (nx : H x = none) (nd : H dx = none) (ne : dx ≠ x) :
    GRel K g cs (upd (upd H dx (.own x)) x (.ins C dx [])) ∧ GExt [] g cs H g cs (upd (upd H dx (.own x)) x (.ins C dx [])) := by
  have hk : ∀ b u, H b = some u → (upd (upd H dx (.own x)) x (.ins C dx [])) b = some u := fun b u e => by
    rw [upd_ne (ne_of_none e nx), upd_ne (ne_of_none e nd)]; exact e
  refine ⟨⟨fun b u e => ?_, gr.len, gr.nd, fun a z => let ⟨u, h⟩ := gr.dom a z; ⟨u, hk a u h⟩, fun n d a e1 e2 => ?_⟩, ⟨⟨GLe.refl _, fun b u e _ _ => hk b u e, fun b u e => ⟨u, hk b u e⟩, fun _ h => .inl h, fun _ h => .inl h⟩, fun _ _ _ => rfl⟩⟩
  · rcases gr.sub b u e with q | ⟨q, o', q'⟩
    · exact .inl (hk _ _ q)
    · exact .inr ⟨q, o', hk _ _ q'⟩
  · obtain ⟨p1, p2⟩ := gr.cell n d a e1 e2
    exact ⟨p1, p2.mono (GLe.refl _) (hk a)⟩
/-- a cell that is finished goes into P -/
theorem GRel.fix {K : PySem.W.Frag} {g : Gh} {cs : List (Option Dat)} {H : Hp} {x : Addr} {d : Dat} (gr : GRel K g cs H) (c : CellOk K g H x d) (n : g.P x = none) (ni : ¬ x ∈ g.io) :
    ∃ o, H x = some o ∧ GRel K ⟨upd g.P x o, g.io⟩ cs H ∧ RepG K ⟨upd g.P x o, g.io⟩ (.ref x) d := by
  obtain ⟨o, ho, r⟩ := c.freeze n
  have le : GLe g ⟨upd g.P x o, g.io⟩ := ⟨Le.new n, List.prefix_refl _⟩
  refine ⟨o, ho, ⟨fun b u e => ?_, gr.len, gr.nd, gr.dom, fun n' d' b e1 e2 => ?_⟩, r⟩
  · by_cases q : b = x
    · subst q
      have e : (upd g.P b o) b = some u := e
      rw [upd_same] at e; cases e
      exact .inl ho
    · have e' : (upd g.P x o) b = some u := e
      rw [upd_ne q] at e'
      exact gr.sub b u e'
  · obtain ⟨p1, p2⟩ := gr.cell n' d' b e1 e2
    have nb : b ≠ x := fun z => ni (z ▸ List.mem_of_getElem? e2)
    refine ⟨?_, p2.mono le fun _ z => z⟩
    show (upd g.P x o) b = none
    rw [upd_ne nb]; exact p1
theorem make_sp {t : Ent} {W : WX} {σ : L2.St} {H : Hp} {g : Gh} {s : Sto} {xs dvs : List V} {ds dfl : List Dat} {Q : VK} {c : Str} {n : Nat} {con : Con} {x dx : Addr} (L : LRel X.K t g s σ H) (r : RepsG X.K g xs ds) (rg : RepsG X.K g dvs dfl) (hn : n = ds.length + 1 + dfl.length)
    (q : atE X.K t W g s σ H (callM con (Dat.ins c [] :: (ds ++ dfl)) s) Q) (nx : H x = none) (nd : H dx = none) (ne : dx ≠ x) :
    spInit X.K n con (.ref x :: (xs ++ dvs)) (upd (upd H dx (.own x)) x (.ins (He.ga X.K c) dx [])) (fun v H2 => v = .non ∧ Q (.ref x) H2) (WE W σ) := by
  obtain ⟨gr2, ex2⟩ := L.gr.new (C := He.ga X.K c) nx nd ne
  have nP : g.P x = none := by
    cases z : g.P x with
    | none => rfl
    | some u => rcases L.gr.sub x u z with q | ⟨_, o', q⟩ <;> (rw [nx] at q; cases q)
  have nI : ¬ x ∈ g.io := fun z => by
    obtain ⟨u, h⟩ := L.gr.dom x z
    rw [nx] at h; cases h
  refine ⟨by rw [List.length_cons, List.length_append, r.length, rg.length, hn]; omega, x, _, g, s.cs, .ins c [], ds ++ dfl, rfl, gr2, ⟨dx, [], upd_same, rfl, .nil⟩, nP, nI, r.append rg, ?_⟩
  unfold callM at q
  cases ec : con (Dat.ins c [] :: (ds ++ dfl)) s.cs with
  | ret d cs' =>
    rw [ec] at q
    intro g' H' e' gr' c' n' ni'
    refine ⟨rfl, ?_⟩
    obtain ⟨o, ho, gr3, r3⟩ := gr'.fix c' n' ni'
    have e3 : GExt [] g s.cs H ⟨upd g'.P x o, g'.io⟩ cs' H' := by
      have le : GLe g' ⟨upd g'.P x o, g'.io⟩ := ⟨Le.new n', List.prefix_refl _⟩
      refine ⟨⟨(ex2.le.trans e'.le).trans le, fun b u z l _ => ?_, fun b u z => ?_, fun b z => ?_, fun b z => ?_⟩, fun b u z => ?_⟩
      · refine e'.keep b u (ex2.keep b u z l (by simp)) l ?_
        simp only [List.mem_singleton]
        exact ne_of_none z nx
      · obtain ⟨u', z'⟩ := ex2.there b u z
        exact e'.there b u' z'
      · rcases e'.new b z with y | y
        · exact .inl y
        · exact .inr (ex2.free y)
      · rcases e'.live b z with y | y
        · exact .inl y
        · exact .inr (ex2.free y)
      · show (upd g'.P x o) b = g.P b
        rw [upd_ne (ne_of_none z nx)]
        obtain ⟨u', z'⟩ := ex2.there b u z
        exact e'.pure b u' z'
    exact q _ _ H' e3.toEK (L.call e3 gr3) r3
  | exc y cs' =>
    rw [ec] at q
    intro g' H' cls dd e' gr' r'
    have e3 : GExt [] g s.cs H g' cs' H' := by
      refine ⟨⟨ex2.le.trans e'.le, fun b u z l _ => ?_, fun b u z => ?_, fun b z => ?_, fun b z => ?_⟩, fun b u z => ?_⟩
      · refine e'.keep b u (ex2.keep b u z l (by simp)) l ?_
        simp only [List.mem_singleton]
        exact ne_of_none z nx
      · obtain ⟨u', z'⟩ := ex2.there b u z
        exact e'.there b u' z'
      · rcases e'.new b z with y | y
        · exact .inl y
        · exact .inr (ex2.free y)
      · rcases e'.live b z with y | y
        · exact .inl y
        · exact .inr (ex2.free y)
      · obtain ⟨u', z'⟩ := ex2.there b u z
        exact e'.pure b u' z'
    exact q g' H' cls dd e3.toEK (L.call e3 gr') r'
  | stuck => rw [ec] at q; exact q.elim

theorem vop_make (N : EnOk (md X) k E) (hr : Room (k + 1) X.A) {c : Str} : VOp X (fun us => call (.ref (He.ga X.K c)) us) (E.make c) := by
  intro t W tk pins sh σ H g s xs us ds Q I rv L r q
  unfold En.make at q
  cases e : E.ini c with
  | none => rw [e] at q; exact q.elim
  | some fi =>
    rw [e] at q
    dsimp only at q
    by_cases hh : fi.par - fi.dfl.length ≤ ds.length + 1 ∧ ds.length + 1 ≤ fi.par
    case neg => rw [if_neg hh] at q; exact q.elim
    rw [if_pos hh] at q
    obtain ⟨mk, hin⟩ := N.ini c fi e
    obtain ⟨fd, ps, hl, Fk, dvs, dv, rd, rg, hb⟩ := (hin.2 ds.length hh.1 hh.2).ex
    have lu : us.length = ds.length := by rw [← rv.length, r.length]
    have sp := make_sp (X := X) (c := c) (W := W) (con := fi.con) L r (rg g) hl q (I.hok.fresh (Nat.le_succ _)) (I.hok.fresh (Nat.le_refl _)) (Nat.ne_of_lt (Nat.lt_succ_self sh.heap.objs.size))
    have I2 := Inv.made (C := He.ga X.K c) I
    have r2 : Vals (V.ref (sh.heap.objs.size + 1) :: (xs ++ dvs)) (Value.ref (sh.heap.objs.size + 1) :: (us ++ dv)) := .cons rfl (rv.append rd)
    refine wpAny_call (make_map (f := fi.adr X.K) I.kIn mk.makes mk.init (beq_iff_eq.mp mk.fn) (codeAny_mono (Fk.run _ X.stack _ _ ⟨Value.ref (sh.heap.objs.size + 1) :: us, []⟩ (Value.ref (sh.heap.objs.size + 1) :: (us ++ dv)) _ _ (WE W σ) (hr.make (He.ga X.K c) us [])
      (I2.env0.make (He.ga X.K c) us []) (hb _ (Value.ref (sh.heap.objs.size + 1) :: us) I2.kIn (by rw [List.length_cons, lu])) r2 sp) fun r s' hq' => ?_))
    cases r with
    | error e => exact passAt tk.tk σ pins _ _ e s' I2 hq'
    | ok fl =>
      cases fl with
      | ret u =>
        obtain ⟨v, H', I3, rv, ev, q3⟩ := I2.after hq'
        subst ev
        exact ⟨rv, ⟨V.ref (sh.heap.objs.size + 1), H', I3, rfl, q3⟩⟩
      | next => exact False.elim hq'
      | brk => exact False.elim hq'
      | cont => exact False.elim hq'
/-! ### argument lists without a star -/
def noStar : List Expr → Bool
  | [] => true
  | .Starred _ _ :: _ => false
  | _ :: es => noStar es
theorem star_cons {e : Expr} {es : List Expr} {env : Env} (h : noStar (e :: es) = true) : starEach (e :: es) env = (false, eval e env) :: starEach es env ∧ noStar es = true := by
  cases e <;> first | exact ⟨rfl, h⟩ | exact absurd h Bool.false_ne_true
theorem star_any {pos : Pos} {env : Env} : ∀ {es : List Expr}, noStar es = true → (backTo pos (starEach es env)).any (·.1) = false
  | [], _ => rfl
  | e :: es, h => by
    obtain ⟨h1, h2⟩ := star_cons (env := env) h
    rw [h1]
    show (false || (backTo pos (starEach es env)).any (·.1)) = false
    rw [star_any h2]; rfl
/-- the call of a value behind its arguments -/
theorem callW {fv : Value} {first : List Value} {es : List Expr} {pos : Pos} {ma : M (List Dat)} {mf : List Dat → M Dat} {t : Ent} {W : WX} {pins : List (Addr × Obj)} {sh : Shared} {σ : L2.St} {H : Hp} {g : Gh} {s : Sto} {Q : VK} (tk : TakesE X t W) (I : Inv X pins σ H sh) (L : LRel X.K t g s σ H)
    (hk : PySem.W.keepIn X.K fv = true) (hz : es = [] → ma = nilA) (hs : noStar es = true) (ha : GA X es ma) (q : atE X.K t W g s σ H (bnd ma mf s) Q)
    (ho : ∀ us sh1 vs g1 s1 H1 ds, Inv X pins σ H1 sh1 → Vals vs us → EK [] g s.cs H g1 s1.cs H1 → LRel X.K t g1 s1 σ H1 → RepsG X.K g1 vs ds → atE X.K t W g1 s1 σ H1 (mf ds s1) Q → wpAny (model X.prog X.w) X.A (call fv (first ++ us)) (EP X pins σ Q) X.xe sh1) :
    wpAny (model X.prog X.w) X.A (callWith pos fv first (backTo pos (starEach es X.env)) []) (EP X pins σ Q) X.xe sh := by
  cases es with
  | nil =>
    obtain rfl := hz rfl
    exact PySem.W.callWith_K0 I.kIn hk (ho [] sh [] g s H [] I .nil (EK.refl _ _ _) L .nil q)
  | cons e es =>
    obtain ⟨h1, h2⟩ := star_cons (env := X.env) hs
    exact PySem.W.callWith_K (h₀ := X.base) I.ok.mod.kin hk (ha.seq tk pos I L q fun us sh1 vs g1 s1 H1 ds I1 rv e1 L1 r1 q1 => ⟨I1.kIn, ho us sh1 vs g1 s1 H1 ds I1 rv e1 L1 r1 q1⟩) h1 (star_any h2)
/-! ### f(..), C(..): a name of the module -/
theorem ge_callG {x : Str} {a : Addr} {es : List Expr} {p pos : Pos} {ma : M (List Dat)} {mf : List Dat → M Dat} (hg : Gl X x) (hm : X.mg x = some (.ref a)) (hk : PySem.W.keepIn X.K (.ref a) = true) (ho : VOp X (fun us => call (.ref a) us) mf) (hz : es = [] → ma = nilA) (hs : noStar es = true) (ha : GA X es ma)
    (hdb : (x == ("__debug__" : Str)) = false) : GE X (.Call (.Name x p) es [] pos) (bnd ma mf) :=
  GE.of fun t W tk pins sh σ H g s Q I L q => wpAny_Call_Name_kw (ld_glob I hg hm (callW (first := []) tk I L hk hz hs ha q fun us sh1 vs g1 s1 H1 ds I1 rv e1 L1 r1 q1 => ho t W tk pins sh1 σ H1 g1 s1 vs us ds Q I1 rv L1 r1 q1) hdb)
/-! ### o.m(..) -/
/-- a method of an own class's instance -/
def En.methI (E : En) (x : Dat) (m : Str) : Option Str := match x with
  | .ins c fs => (match E.att c m with
    | some (.meth q) => if (fs.lookup m).isNone = true then some q else none
    | _ => none)
  | _ => none
def gate {α : Type} (o : Option α) (f : α → M Dat) : M Dat := match o with
  | some a => f a
  | none => fail
theorem ge_methI {o : Expr} {m : Str} {es : List Expr} {apos pos : Pos} {mo : M Dat} {ma : M (List Dat)} {pl : Sem Bool} (N : EnOk (md X) k E) (hr : Room k X.A) (ho : GE X o mo) (hz : es = [] → ma = nilA) (hs : noStar es = true) (ha : GA X es ma)
    (ht : eval (.Call (.Attribute o m apos) es [] pos) X.env = (do
      let ov ← eval o X.env
      standAt apos.atName
      let (f, first) ← holding [ov] (getMethod ov m pl)
      callWith pos f first (backTo pos (starEach es X.env)) (backToKw pos (keywordEach [] X.env)))) :
    GE X (.Call (.Attribute o m apos) es [] pos) (bnd mo fun x => gate (E.methI x m) fun q => bnd ma fun ds => E.call q (x :: ds)) := by
  refine GE.of fun t W tk pins sh σ H g s Q I L q => PySem.W.methodCall_KW (pl := pl) (ho.seq tk I L q fun u sh1 v g1 s1 H1 d I1 rv e1 L1 r1 q1 => ?_) ht
  cases r1 with
  | @ins a dx c fs ds h kk r =>
    obtain rfl : u = Value.ref a := rv
    have ha' : H1 a = some (.ins (He.ga X.K c) dx fs) := L1.gr.sub.at_ h rfl
    unfold En.methI at q1
    dsimp only at q1
    cases ea : E.att c m with
    | none => rw [ea] at q1; exact q1.elim
    | some at_ =>
      rw [ea] at q1
      obtain ⟨ci, z1, z2⟩ := En.att_some ea
      have A := (N.cl c ci z1).att m at_ z2
      cases at_ with
      | meth qn =>
        dsimp only at q1
        by_cases hl : (ds.lookup m).isNone = true
        case neg => rw [if_neg hl] at q1; exact q1.elim
        rw [if_pos hl] at q1
        obtain ⟨fi, y1, y2⟩ := A
        have ln := (lookup_rep (f := m) kk r).2 (Option.isNone_iff_eq_none.mp hl)
        have q1 : atE X.K t W g1 s1 σ H1 (bnd ma (fun ds' => E.call qn (Dat.ins c ds :: ds')) s1) Q := q1
        refine getmeth_ok I1 ha' (N.cl c ci z1).cls y2 ln (callW (first := [.ref a]) tk I1 L1 y2.kp hz hs ha q1 fun us sh2 vs g2 s2 H2 es' I2 rv2 e2 L2 r2 q2 => ?_)
        unfold En.call at q2
        rw [y1] at q2
        exact vop_fi (N.fn qn fi y1) hr t W tk pins sh2 σ H2 g2 s2 (.ref a :: vs) (.ref a :: us) (Dat.ins c ds :: es') Q I2 (.cons rfl rv2) L2 (.cons (e2.le.rep (.ins h kk r)) r2) q2
      | _ => exact q1.elim
  | _ => exact q1.elim
end
end Zw

namespace Zw
open PySem L2 PyProof.Rows PySem.Spec ClX

section
variable {X : Cx} {E : En} {k : Nat}
/-! ### C.m(..): static methods, class methods -/
theorem getmeth_sm {C p f : Addr} {mc : Value} {rest : List Value} {m : Str} {pl : Sem Bool} {pins : List (Addr × Obj)} {σ : L2.St} {H : Hp} {s : Shared} {A : Around} {E' : Value → Shared → Prop} {Q : Value × List Value → Shared → Prop} (I : Inv X pins σ H s) (r : CRead X.K C mc)
    (e : PySem.W.findCls X.K (.ref C) mc m = some (.get (.builtin "staticmethod.__get__") (.ref p) .none (.ref C))) (hp : PySem.W.recIn X.K p "staticmethod" = some (.ref f :: rest))
    (h : ∀ s', Inv X pins σ H s' → Q (.ref f, []) s') : wpAny (model X.prog X.w) A (getMethod (.ref C) m pl) Q E' s :=
  PySem.W.method_cls I.kIn r.ga (PySem.W.cls_bind I.kIn r.rd e (wpAny_call (PySem.W.sm_get (s := { s with toks := s.toks + 1 }) I.kIn hp (PySem.W.handed_on rfl (h _ (I.tok _))))))
/-- a static or class method of an own class: its name, whether the class is handed in -/
def En.methC (E : En) (x : Dat) (m : Str) : Option (Str × Bool) := match x with
  | .cls c => (match E.att c m with
    | some (.stat q) => some (q, false)
    | some (.clsm q) => some (q, true)
    | _ => none)
  | _ => none
theorem ge_methC {o : Expr} {m : Str} {es : List Expr} {apos pos : Pos} {mo : M Dat} {ma : M (List Dat)} {pl : Sem Bool} (N : EnOk (md X) k E) (hr : Room k X.A) (ho : GE X o mo) (hz : es = [] → ma = nilA) (hs : noStar es = true) (ha : GA X es ma)
    (ht : eval (.Call (.Attribute o m apos) es [] pos) X.env = (do
      let ov ← eval o X.env
      standAt apos.atName
      let (f, first) ← holding [ov] (getMethod ov m pl)
      callWith pos f first (backTo pos (starEach es X.env)) (backToKw pos (keywordEach [] X.env)))) :
    GE X (.Call (.Attribute o m apos) es [] pos) (bnd mo fun x => gate (E.methC x m) fun q => bnd ma fun ds => E.call q.1 (if q.2 = true then x :: ds else ds)) := by
  refine GE.of fun t W tk pins sh σ H g s Q I L q => PySem.W.methodCall_KW (pl := pl) (ho.seq tk I L q fun u sh1 v g1 s1 H1 d I1 rv e1 L1 r1 q1 => ?_) ht
  cases r1 with
  | cls c =>
    obtain rfl : u = Value.ref (He.ga X.K c) := rv
    unfold En.methC at q1
    dsimp only at q1
    cases ea : E.att c m with
    | none => rw [ea] at q1; exact q1.elim
    | some at_ =>
      rw [ea] at q1
      obtain ⟨ci, z1, z2⟩ := En.att_some ea
      have A := (N.cl c ci z1).att m at_ z2
      cases at_ with
      | stat qn =>
        obtain ⟨fi, p, mc, rest, y1, y2, y3, y4⟩ := A
        have q1 : atE X.K t W g1 s1 σ H1 (bnd ma (fun ds' => E.call qn ds') s1) Q := q1
        have F := N.fn qn fi y1
        have kp : PySem.W.keepIn X.K (.ref (fi.adr X.K)) = true := (F.2 fi.par (Nat.sub_le _ _) (Nat.le_refl _)).kp
        refine getmeth_sm I1 y2 y3 y4 fun sh' I1' => callW (first := []) tk I1' L1 kp hz hs ha q1 fun us sh2 vs g2 s2 H2 es' I2 rv2 e2 L2 r2 q2 => ?_
        unfold En.call at q2
        rw [y1] at q2
        exact vop_fi F hr t W tk pins sh2 σ H2 g2 s2 vs us es' Q I2 rv2 L2 r2 q2
      | clsm qn =>
        obtain ⟨fi, p, mc, y1, y2, y3⟩ := A
        have q1 : atE X.K t W g1 s1 σ H1 (bnd ma (fun ds' => E.call qn (Dat.cls c :: ds')) s1) Q := q1
        have F := N.fn qn fi y1
        refine getmethcm_ok I1 y2 y3 fun sh' I1' => ?_
        have fin : ∀ us sh2 vs g2 s2 H2 es', Inv X ((sh1.heap.objs.size, PySem.W.methodObj (.ref (fi.adr X.K)) (.ref (He.ga X.K c))) :: pins) σ H2 sh2 → Vals vs us → EK [] g1 s1.cs H1 g2 s2.cs H2 → LRel X.K t g2 s2 σ H2 → RepsG X.K g2 vs es' → atE X.K t W g2 s2 σ H2 (E.call qn (Dat.cls c :: es') s2) Q →
            wpAny (model X.prog X.w) X.A (call (.ref sh1.heap.objs.size) us) (EP X pins σ Q) X.xe sh2 := fun us sh2 vs g2 s2 H2 es' I2 rv2 e2 L2 r2 q2 => by
          unfold En.call at q2
          rw [y1] at q2
          exact thn (wpAny_call (PySem.W.method_call (pin_at I2) (code_fi F hr tk I2 (xs := .ref (He.ga X.K c) :: vs) (us := .ref (He.ga X.K c) :: us) (.cons rfl rv2) L2 (ds := Dat.cls c :: es') (.cons (.cls c) r2) q2))) fun _ _ y => unpinE y
        cases es with
        | nil =>
          obtain rfl := hz rfl
          exact PySem.W.callWith_M0 ⟨pin_at I1', I1'.kIn⟩ y3.fi (fin [] sh' [] g1 s1 H1 [] I1' .nil (EK.refl _ _ _) L1 .nil q1)
        | cons e es =>
          obtain ⟨h1, h2⟩ := star_cons (env := X.env) hs
          exact callwith_cm I1' (base_none I1 (Nat.le_refl _)) y3.fi (ha.seq tk pos I1' L1 q1 fun us sh2 vs g2 s2 H2 ds I2 rv2 e2 L2 r2 q2 => ⟨⟨pin_at I2, I2.kIn⟩, fin us sh2 vs g2 s2 H2 ds I2 rv2 e2 L2 r2 q2⟩) h1 (star_any h2)
      | _ => exact q1.elim
  | _ => exact q1.elim
/-! ### x(..): a class that a slot holds -/
theorem ge_callV {x : Str} {es : List Expr} {p pos : Pos} {mx : M Dat} {ma : M (List Dat)} (N : EnOk (md X) k E) (hr : Room (k + 1) X.A) (hx : GE X (.Name x p) mx) (hz : es = [] → ma = nilA) (hs : noStar es = true) (ha : GA X es ma) :
    GE X (.Call (.Name x p) es [] pos) (bnd mx fun v => match v with | .cls c => (if (E.ini c).isSome = true then bnd ma (E.make c) else fail) | _ => fail) := by
  refine GE.of fun t W tk pins sh σ H g s Q I L q => wpAny_Call_Name_kw (hx.seq tk I L q fun u sh1 v g1 s1 H1 d I1 rv e1 L1 r1 q1 => ?_)
  cases r1 with
  | cls c =>
    obtain rfl : u = Value.ref (He.ga X.K c) := rv
    dsimp only at q1
    cases e : E.ini c with
    | none => rw [e] at q1; exact q1.elim
    | some fi =>
      rw [e] at q1
      have q1 : atE X.K t W g1 s1 σ H1 (bnd ma (E.make c) s1) Q := q1
      exact callW (first := []) tk I1 L1 (N.ini c fi e).1.kp hz hs ha q1 fun us sh2 vs g2 s2 H2 ds I2 rv2 e2 L2 r2 q2 => vop_make N hr t W tk pins sh2 σ H2 g2 s2 vs us ds Q I2 rv2 L2 r2 q2
  | _ => exact q1.elim
end
end Zw

namespace Zw
open PySem PySem.W PySem.Calls PyProof.Rows

section
variable {prog : Program} {w : World} {A : Around} {E : Value → Shared → Prop} {s : Shared} {K : Frag} {x C C' y f : Addr} {ox oy : Obj} {od oe : Option Obj}
/-- an own class on the left, an instance of another own class on the right, neither below the other -/
theorem bin_other {op : Operator} {rc : Option Value} {f' : Addr} {rc' : Option Value} {Q : Value → Shared → Prop} (X : K.In s.heap) (I : InstAt s.heap x ox C od) (J : InstAt s.heap y oy C' oe) (hne : C ≠ C') (hc : selfFirst K C = true) (hc' : selfFirst K C' = true)
    (hs : findIn K (.ref C) (PySem.dunder op.info.2) = some (some (.ref f))) (hf : isFn K (.ref f) = true) (hr : findIn K (.ref C) (dunderR op.info.2) = some rc) (hp : rc = none ∨ ∃ g : Addr, rc = some (.ref g))
    (hs' : findIn K (.ref C') (PySem.dunder op.info.2) = some (some (.ref f'))) (hr' : findIn K (.ref C') (dunderR op.info.2) = some rc') (hp' : rc' = none ∨ ∃ g : Addr, rc' = some (.ref g)) (hsub : subIn K (.ref C') (.ref C) = some false)
    (h : wpAny (model prog w) A (call (.ref f) [.ref x, .ref y]) (PySem.W.CmpBack Q) E s) : wpAny (model prog w) A (binaryOp op (.ref x) (.ref y)) Q E s := by
  obtain ⟨cd, rest, hcd, hm⟩ := ksp_first hc
  obtain ⟨cd', rest', hcd', hm'⟩ := ksp_first hc'
  rcases hi : op.info with ⟨sym, nm'⟩
  rw [hi] at hs hr hs' hr'
  dsimp only at hs hr hs' hr'
  have one := ksp_try X I hs hf h
  obtain ⟨hh, g, d, tt, os⟩ := s
  have L1 : Looks (model prog w) hh (typeOf (.ref x)) (.ref C) := I.type
  have L2 : Looks (model prog w) hh (typeOf (.ref y)) (.ref C') := J.type
  have L3 : Looks (model prog w) hh (fillsNumberSlot (.ref C) nm') true := fills_K X hcd hm hs
  have L4 : Looks (model prog w) hh (fillsNumberSlot (.ref C') nm') true := fills_K X hcd' hm' hs'
  have L5 : Looks (model prog w) hh (isSubtype (.ref C') (.ref C)) false := looks_subIn X hsub
  have L6 : Looks (model prog w) hh (numberSlotInPython (.ref C) nm') true := ksp_inPy X hs hr hp
  have L7 : Looks (model prog w) hh (numberSlotInPython (.ref C') nm') true := ksp_inPy X hs' hr' hp'
  have hne : (Value.ref C == Value.ref C') = false := Bool.eq_false_iff.mpr fun q => by have := beq_iff_eq.mp q; cases this; exact hne rfl
  simp only [binaryOp, hi]
  refine wpAny_holding (wpAny_bind ?_)
  unfold binaryOp1
  refine wpAny_bind (L1.at (wpAny_bind (L2.at (wpAny_bind (L3.at ?_)))))
  simp only [hne, Bool.false_eq_true, if_false]
  ksp_lk
  refine wpAny_mono one (fun r s' hr' => ?_) fun _ _ e => e
  obtain ⟨v, rfl, hq⟩ := hr'
  ksp_lk
  exact hq
/-- an int on the left whose own slot declines, an own class on the right -/
theorem bin_refl {op : Operator} {i : Int} {t : Tok} {idl : String} {B : Builtin} {f0 : Addr} {Q : Value → Shared → Prop} (X : K.In s.heap) (I : InstAt s.heap y oy C od) (hc : selfFirst K C = true)
    (hs : findIn K (.ref C) (PySem.dunder op.info.2) = some (some (.ref f0))) (hr : findIn K (.ref C) (dunderR op.info.2) = some (some (.ref f))) (hf : isFn K (.ref f) = true) (hsub : subIn K (.ref C) (.type "int") = some false)
    (slot : PySem.Slot "int" (PySem.dunder op.info.2) idl) (fills : fillsNumberSlot (.type "int") op.info.2 = pure true) (entry : entryFor table idl = some B) (args : argsOk idl ⟨[.int i t, .ref y], []⟩)
    (decl : ∀ (A : Around) (E : Value → Shared → Prop) (Q : Fin → Shared → Prop), Q (.done (.ret .notImplemented)) s → wpAny (model prog w) A (B ⟨[.int i t, .ref y], []⟩) Q E s)
    (h : wpAny (model prog w) A (call (.ref f) [.ref y, .int i t]) (PySem.W.CmpBack Q) E s) : wpAny (model prog w) A (binaryOp op (.int i t) (.ref y)) Q E s := by
  obtain ⟨cd, rest, hcd, hm⟩ := ksp_first hc
  rcases hi : op.info with ⟨sym, nm'⟩
  rw [hi] at hs hr slot fills
  dsimp only at hs hr slot fills
  have one := ksp_try X I hr hf h
  have no : wpAny (model prog w) A (tryMethod (.int i t) (PySem.dunder nm') (.ref y)) (fun r s' => r = none ∧ s' = s) E s := by
    refine wpAny_tryMethod_declines (T := "int") rfl slot (wpAny_call (codeAny_call_builtin slot.plain entry (slot.check _ _ _ _ _ _ _ _ rfl args ?_)))
    exact decl _ _ _ ⟨rfl, rfl, rfl⟩
  obtain ⟨hh, g, d, tt, os⟩ := s
  have L1 : Looks (model prog w) hh (typeOf (.ref y)) (.ref C) := I.type
  have L2 : Looks (model prog w) hh (typeOf (.int i t)) (.type "int") := Looks.of_pure rfl
  have L3 : Looks (model prog w) hh (fillsNumberSlot (.ref C) nm') true := fills_K X hcd hm hs
  have L4 : Looks (model prog w) hh (fillsNumberSlot (.type "int") nm') true := Looks.of_pure fills
  have L5 : Looks (model prog w) hh (isSubtype (.ref C) (.type "int")) false := looks_subIn X hsub
  have L7 : Looks (model prog w) hh (numberSlotInPython (.type "int") nm') false := Looks.of_pure rfl
  have hne : (Value.type "int" == Value.ref C) = false := Bool.eq_false_iff.mpr fun q => by cases beq_iff_eq.mp q
  simp only [binaryOp, hi]
  refine wpAny_holding (wpAny_bind ?_)
  unfold binaryOp1
  refine wpAny_bind (L2.at (wpAny_bind (L1.at (wpAny_bind (L4.at ?_)))))
  simp only [hne, Bool.false_eq_true, if_false]
  ksp_lk
  refine wpAny_mono no (fun r s' hr' => ?_) fun _ _ e => e
  obtain ⟨rfl, rfl⟩ := hr'
  ksp_lk
  refine wpAny_mono one (fun r s' hr' => ?_) fun _ _ e => e
  obtain ⟨v, rfl, hq⟩ := hr'
  ksp_lk
  exact hq
theorem intBinary_declines {name : String} {fn : Int → Int → Sem Fin} {i : Int} {t : Tok} {Q : Fin → Shared → Prop} {M : Model} (hy : s.heap.get? y = some oy) (hd : oy.data = .plain) (h : Q (.done (.ret .notImplemented)) s) :
    wpAny M A (Builtin.Int.intBinary name fn false ⟨[.int i t, .ref y], []⟩) Q E s := by
  obtain ⟨hh, g, d, tt, os⟩ := s
  unfold Builtin.Int.intBinary Builtin.Int.intOfSelf slotArgs asInt?
  dsimp only at hy
  repeat lk
  rw [hd]
  repeat lk
  exact h
theorem floordiv_declines {i : Int} {t : Tok} {Q : Fin → Shared → Prop} {M : Model} (hy : s.heap.get? y = some oy) (hd : oy.data = .plain) (h : Q (.done (.ret .notImplemented)) s) :
    wpAny M A (Builtin.«int.__floordiv__» ⟨[.int i t, .ref y], []⟩) Q E s := by
  unfold Builtin.«int.__floordiv__»
  refine wpAny_bind ?_
  have z : ∀ fn, wpAny M A (Builtin.Int.intBinary "__floordiv__" fn false ⟨[.int i t, .ref y], []⟩) Q E s := fun fn => intBinary_declines hy hd h
  generalize Builtin.Int.intBinary "__floordiv__" = F at z
  obtain ⟨hh, g, d, tt, os⟩ := s
  unfold Builtin.exactOperandsForPylong asInt?
  dsimp only at hy
  have e : (([Value.int i t, Value.ref y] : List Value).any Value.onHeap) = true := rfl
  dsimp only
  rw [e]
  repeat lk
  rw [hd]
  repeat lk
  rw [hd]
  repeat lk
  exact h
end
end Zw

namespace Zw
open PySem L2 PyProof.Rows PySem.Spec

/-! ### rules: an operation by the shapes of its values; the first that fits is taken -/
abbrev Rule := List Dat → Option (M Dat)
def ROk (X : Cx) (f : List Value → Sem Value) (r : Rule) : Prop := ∀ (t : Ent) (W : WX), TakesE X t W → ∀ (pins : List (Addr × Obj)) (sh : Shared) (σ : L2.St) (H : Hp) (g : Gh) (s : Sto) (xs : List V) (us : List Value) (ds : List Dat) (m : M Dat) (Q : VK),
  r ds = some m → Inv X pins σ H sh → Vals xs us → LRel X.K t g s σ H → RepsG X.K g xs ds → atE X.K t W g s σ H (m s) Q → wpAny (model X.prog X.w) X.A (f us) (EP X pins σ Q) X.xe sh
def orR (r r' : Rule) : Rule := fun ds => match r ds with
  | some m => some m
  | none => r' ds
def runR (r : Rule) : List Dat → M Dat := fun ds => match r ds with
  | some m => m
  | none => fail
abbrev f1 (f : Value → Sem Value) : List Value → Sem Value := fun us => match us with | [u] => f u | _ => pure .none
abbrev f2 (f : Value → Value → Sem Value) : List Value → Sem Value := fun us => match us with | [u, v] => f u v | _ => pure .none
section
variable {X : Cx} {f : List Value → Sem Value} {r r' : Rule}
theorem ROk.or (h : ROk X f r) (h' : ROk X f r') : ROk X f (orR r r') := fun t W tk pins sh σ H g s xs us ds m Q e I rv L rp q => by
  unfold orR at e
  cases e1 : r ds with
  | some m1 => rw [e1] at e; cases e; exact h t W tk pins sh σ H g s xs us ds m Q e1 I rv L rp q
  | none => rw [e1] at e; exact h' t W tk pins sh σ H g s xs us ds m Q e I rv L rp q
theorem ROk.run (h : ROk X f r) : VOp X f (runR r) := fun t W tk pins sh σ H g s xs us ds Q I rv L rp q => by
  unfold runR at q
  cases e : r ds with
  | some m => rw [e] at q; exact h t W tk pins sh σ H g s xs us ds m Q e I rv L rp q
  | none => rw [e] at q; exact q.elim
theorem vop2 {f : Value → Value → Sem Value} {r : Rule} (h : ROk X (f2 f) r) : VOp X (fun us => match us with | [u, v] => f u v | _ => pure .none) (fun ds => match ds with | [x, y] => runR r [x, y] | _ => fail) := fun t W tk pins sh σ H g s xs us ds Q I rv L rp q => by
  match ds, q, rp with
  | [x, y], q, rp => exact h.run t W tk pins sh σ H g s xs us [x, y] Q I rv L rp q
  | [], q, _ => exact q.elim
  | [_], q, _ => exact q.elim
  | _ :: _ :: _ :: _, q, _ => exact q.elim
theorem vop1 {f : Value → Sem Value} {r : Rule} (h : ROk X (f1 f) r) : VOp X (fun us => match us with | [u] => f u | _ => pure .none) (fun ds => match ds with | [x] => runR r [x] | _ => fail) := fun t W tk pins sh σ H g s xs us ds Q I rv L rp q => by
  match ds, q, rp with
  | [x], q, rp => exact h.run t W tk pins sh σ H g s xs us [x] Q I rv L rp q
  | [], q, _ => exact q.elim
  | _ :: _ :: _, q, _ => exact q.elim
/-- a rule that tells a value without a new object -/
abbrev PRule2 := Dat → Dat → Option Dat
def p2 (p : PRule2) : Rule := fun ds => match ds with
  | [x, y] => (p x y).map pur
  | _ => none
theorem ROk.p2 {f : Value → Value → Sem Value} {p : PRule2} (h : ∀ (pins : List (Addr × Obj)) (sh : Shared) (σ : L2.St) (H : Hp) (g : Gh) (x y : V) (u v : Value) (dx dy d : Dat) (Q : VK), p dx dy = some d → Inv X pins σ H sh → RelV x u → RelV y v → Sub g.P H → RepG X.K g x dx → RepG X.K g y dy → (∀ z, RepG X.K g z d → Q z H) → wpAny (model X.prog X.w) X.A (f u v) (EP X pins σ Q) X.xe sh) : ROk X (f2 f) (p2 p) := fun t W tk pins sh σ H g s xs us ds m Q e I rv L rp q => by
  match xs, us, ds, rv, rp, e with
  | [x, y], [u, v], [dx, dy], .cons r1 (.cons r2 .nil), .cons p1 (.cons p2' .nil), e =>
    obtain ⟨d, e1, e2⟩ := Option.map_eq_some_iff.mp e
    subst e2
    exact h pins sh σ H g x y u v dx dy d Q e1 I r1 r2 L.gr.sub p1 p2' fun z rz => at_here L q rz
  | [], _, _, .nil, .nil, e => cases e
  | [_], _, _, .cons _ .nil, .cons _ .nil, e => cases e
  | _ :: _ :: _ :: _, _, _, .cons _ (.cons _ (.cons _ _)), .cons _ (.cons _ (.cons _ _)), e => cases e
abbrev PRule1 := Dat → Option Dat
def p1 (p : PRule1) : Rule := fun ds => match ds with
  | [x] => (p x).map pur
  | _ => none
theorem ROk.p1 {f : Value → Sem Value} {p : PRule1} (h : ∀ (pins : List (Addr × Obj)) (sh : Shared) (σ : L2.St) (H : Hp) (g : Gh) (x : V) (u : Value) (dx d : Dat) (Q : VK), p dx = some d → Inv X pins σ H sh → RelV x u → Sub g.P H → RepG X.K g x dx → (∀ z, RepG X.K g z d → Q z H) → wpAny (model X.prog X.w) X.A (f u) (EP X pins σ Q) X.xe sh) : ROk X (f1 f) (p1 p) := fun t W tk pins sh σ H g s xs us ds m Q e I rv L rp q => by
  match xs, us, ds, rv, rp, e with
  | [x], [u], [dx], .cons r1 .nil, .cons p1 .nil, e =>
    obtain ⟨d, e1, e2⟩ := Option.map_eq_some_iff.mp e
    subst e2
    exact h pins sh σ H g x u dx d Q e1 I r1 L.gr.sub p1 fun z rz => at_here L q rz
  | [], _, _, .nil, .nil, e => cases e
  | _ :: _ :: _, _, _, .cons _ (.cons _ _), .cons _ (.cons _ _), e => cases e
/-! ### ints -/
def small64 (i : Int) : Bool := decide (-(2 ^ 64) < i ∧ i < 2 ^ 64)
def mulOk (i j : Int) : Bool := small64 i || small64 j || decide (i.natAbs.log2 + j.natAbs.log2 < 1000000)
def i2 (p : Int → Int → Option Dat) : PRule2 := fun x y => match x, y with
  | .int i, .int j => p i j
  | _, _ => none
theorem ROk.i2 {f : Value → Value → Sem Value} {p : Int → Int → Option Dat} (h : ∀ (pins : List (Addr × Obj)) (sh : Shared) (σ : L2.St) (H : Hp) (g : Gh) (i j : Int) (u v : Value) (d : Dat) (Q : VK), p i j = some d → Inv X pins σ H sh → RelV (.int i) u → RelV (.int j) v → (∀ z, RepG X.K g z d → Q z H) → wpAny (model X.prog X.w) X.A (f u v) (EP X pins σ Q) X.xe sh) : ROk X (f2 f) (Zw.p2 (Zw.i2 p)) :=
  ROk.p2 fun pins sh σ H g x y u v dx dy d Q e I r1 r2 sb p1 p2 q => by
    cases p1 with
    | int i =>
      cases p2 with
      | int j => exact h pins sh σ H g i j u v d Q e I r1 r2 q
      | _ => cases e
    | _ => cases e
theorem ROk.opI {f : Value → Value → Sem Value} {C : Int → Int → Prop} {k : Int → Int → V} {c : Int → Int → Bool} {kd : Int → Int → Dat} (ho : OpR X f (rI C k)) (hc : ∀ i j, c i j = true → C i j) (hk : ∀ g i j, RepG X.K g (k i j) (kd i j)) : ROk X (f2 f) (Zw.p2 (Zw.i2 fun i j => if c i j = true then some (kd i j) else none)) :=
  ROk.i2 fun pins sh σ H g i j u v d Q e I r1 r2 q => by
    by_cases z : c i j = true
    · rw [if_pos z] at e; cases e
      exact ho pins sh σ H (.int i) (.int j) u v Q I r1 r2 ⟨i, j, rfl, rfl, hc i j z, q _ (hk g i j)⟩
    · rw [if_neg z] at e; cases e
theorem ROk.opI0 {f : Value → Value → Sem Value} {k : Int → Int → V} {kd : Int → Int → Dat} (ho : OpR X f (rI0 k)) (hk : ∀ g i j, RepG X.K g (k i j) (kd i j)) : ROk X (f2 f) (Zw.p2 (Zw.i2 fun i j => some (kd i j))) :=
  ROk.i2 fun pins sh σ H g i j u v d Q e I r1 r2 q => by
    cases e
    exact ho pins sh σ H (.int i) (.int j) u v Q I r1 r2 ⟨i, j, rfl, rfl, q _ (hk g i j)⟩
theorem mulOk_ok {i j : Int} (h : mulOk i j = true) : IntMulOk i j := by
  unfold mulOk at h
  rcases Bool.or_eq_true_iff.mp h with h | h
  · refine CMul.ok ?_
    rcases Bool.or_eq_true_iff.mp h with h | h
    · exact .inl (of_decide_eq_true h)
    · exact .inr (of_decide_eq_true h)
  · exact CMulW.ok (by have := of_decide_eq_true h; unfold CMulW; exact this)
theorem op_mulZ : OpR X (binaryOp .Mult) (rI (fun i j => mulOk i j = true) fun i j => .int (i * j)) := L2.opI fun _ _ _ _ _ _ _ hc q => mul_int q (mulOk_ok hc)
theorem iop_mulZ : OpR X (inplaceOp .Mult) (rI (fun i j => mulOk i j = true) fun i j => .int (i * j)) := L2.opI fun _ _ _ _ _ _ _ hc q => imul_int q (mulOk_ok hc)
def divOk (i j : Int) : Bool := decide (j ≠ 0) && decide (j.natAbs.log2 < 9000)
theorem op_fdivZ : OpR X (binaryOp .FloorDiv) (rI (fun i j => divOk i j = true) fun i j => .int (i.fdiv j)) := L2.opI fun _ _ _ _ _ _ _ hc q => by
  obtain ⟨h1, h2⟩ := Bool.and_eq_true_iff.mp hc
  exact floordiv_int (of_decide_eq_true h1) q (.inl (PyProof.noPylong_of_log2 (of_decide_eq_true h2)))
theorem iop_fdivZ : OpR X (inplaceOp .FloorDiv) (rI (fun i j => divOk i j = true) fun i j => .int (i.fdiv j)) := L2.opI fun _ _ _ _ _ _ _ hc q => by
  obtain ⟨h1, h2⟩ := Bool.and_eq_true_iff.mp hc
  exact ifloordiv_int (of_decide_eq_true h1) q (.inl (PyProof.noPylong_of_log2 (of_decide_eq_true h2)))
def powOk (i j : Int) : Bool := decide (0 ≤ j ∧ j ≤ 1000000 ∧ i.natAbs < 2 ^ 64)
def rAddI : Rule := p2 (i2 fun i j => some (.int (i + j)))
def rSubI : Rule := p2 (i2 fun i j => some (.int (i - j)))
def rMulI : Rule := p2 (i2 fun i j => if mulOk i j = true then some (.int (i * j)) else none)
def rDivI : Rule := p2 (i2 fun i j => if divOk i j = true then some (.int (i.fdiv j)) else none)
def rModI : Rule := p2 (i2 fun i j => if decide (j ≠ 0) = true then some (.int (i.fmod j)) else none)
def rPowI : Rule := p2 (i2 fun i j => if powOk i j = true then some (.int (i ^ j.toNat)) else none)
def rLtI : Rule := p2 (i2 fun i j => some (.bl (decide (i < j))))
def rLeI : Rule := p2 (i2 fun i j => some (.bl (decide (i ≤ j))))
def rGtI : Rule := p2 (i2 fun i j => some (.bl (decide (j < i))))
def rGeI : Rule := p2 (i2 fun i j => some (.bl (decide (j ≤ i))))
theorem ok_addI : ROk X (f2 (binaryOp .Add)) rAddI := ROk.opI0 op_add fun g i j => .int _
theorem ok_subI : ROk X (f2 (binaryOp .Sub)) rSubI := ROk.opI0 op_sub fun g i j => .int _
theorem ok_mulI : ROk X (f2 (binaryOp .Mult)) rMulI := ROk.opI op_mulZ (fun _ _ h => h) fun g i j => .int _
theorem ok_divI : ROk X (f2 (binaryOp .FloorDiv)) rDivI := ROk.opI op_fdivZ (fun _ _ h => h) fun g i j => .int _
theorem ok_modI : ROk X (f2 (binaryOp .Mod)) rModI := ROk.opI op_modN (fun _ _ h => of_decide_eq_true h) fun g i j => .int _
theorem ok_powI : ROk X (f2 (binaryOp .Pow)) rPowI := ROk.opI op_pow (fun i j h => by have := of_decide_eq_true h; unfold CPow; exact this) fun g i j => .int _
theorem ok_iaddI : ROk X (f2 (inplaceOp .Add)) rAddI := ROk.opI0 iop_add fun g i j => .int _
theorem ok_isubI : ROk X (f2 (inplaceOp .Sub)) rSubI := ROk.opI0 iop_sub fun g i j => .int _
theorem ok_imulI : ROk X (f2 (inplaceOp .Mult)) rMulI := ROk.opI iop_mulZ (fun _ _ h => h) fun g i j => .int _
theorem ok_idivI : ROk X (f2 (inplaceOp .FloorDiv)) rDivI := ROk.opI iop_fdivZ (fun _ _ h => h) fun g i j => .int _
theorem ok_ltI : ROk X (f2 (compareOp .Lt)) rLtI := ROk.opI0 op_lt fun g i j => .bl _
theorem ok_leI : ROk X (f2 (compareOp .LtE)) rLeI := ROk.opI0 op_le fun g i j => .bl _
theorem ok_gtI : ROk X (f2 (compareOp .Gt)) rGtI := ROk.opI0 op_gt fun g i j => .bl _
theorem ok_geI : ROk X (f2 (compareOp .GtE)) rGeI := ROk.opI0 op_ge fun g i j => .bl _
def rNegI : Rule := p1 fun x => match x with | .int i => some (.int (-i)) | _ => none
theorem ok_negI : ROk X (f1 (unaryOp .USub)) rNegI := ROk.p1 fun pins sh σ H g x u dx d Q e I r1 sb p q => by
  cases p with
  | int i => cases e; exact un_neg pins sh σ H (.int i) u Q I r1 ⟨i, rfl, q _ (.int _)⟩
  | _ => cases e
/-! ### None -/
def isNon : Dat → Bool
  | .non => true
  | _ => false
theorem isNon_rep {K : PySem.W.Frag} {g : Gh} {x : V} {d : Dat} (r : RepG K g x d) : decide (x = .non) = isNon d := by
  cases r <;> rfl
def rIsN : Rule := p2 fun x y => match y with | .non => some (.bl (isNon x)) | _ => none
def rNotN : Rule := p2 fun x y => match y with | .non => some (.bl (!isNon x)) | _ => none
theorem ok_isN : ROk X (f2 (compareOp .Is)) rIsN := ROk.p2 fun pins sh σ H g x y u v dx dy d Q e I r1 r2 sb p1 p2 q => by
  cases p2 with
  | non => cases e; exact op_isN pins sh σ H x .non u v Q I r1 r2 ⟨rfl, by rw [isNon_rep p1]; exact q _ (.bl _)⟩
  | _ => cases e
theorem ok_notN : ROk X (f2 (compareOp .IsNot)) rNotN := ROk.p2 fun pins sh σ H g x y u v dx dy d Q e I r1 r2 sb p1 p2 q => by
  cases p2 with
  | non => cases e; exact op_notN pins sh σ H x .non u v Q I r1 r2 ⟨rfl, by rw [isNon_rep p1]; exact q _ (.bl _)⟩
  | _ => cases e
/-! ### == of scalars -/
def sEq : Dat → Dat → Option Bool
  | .non, .non => some true
  | .non, .int _ => some false | .int _, .non => some false | .non, .bl _ => some false | .bl _, .non => some false | .non, .str _ => some false | .str _, .non => some false
  | .int i, .int j => some (decide (i = j))
  | .bl i, .bl j => some (decide (i = j))
  | .str i, .str j => some (decide (i = j))
  | .int _, .str _ => some false | .str _, .int _ => some false | .bl _, .str _ => some false | .str _, .bl _ => some false
  | _, _ => none
theorem sEq_rep {K : PySem.W.Frag} {g : Gh} {x y : V} {d e : Dat} {b : Bool} (r : RepG K g x d) (r' : RepG K g y e) (h : sEq d e = some b) : scal x y = true ∧ decide (x = y) = b := by
  cases r <;> cases r' <;> first | (simp [sEq] at h; done) | (simp [sEq] at h; subst h; refine ⟨rfl, ?_⟩; simp)
def rEqS : Rule := p2 fun x y => (sEq x y).map .bl
def rNeS : Rule := p2 fun x y => (sEq x y).map fun b => .bl (!b)
theorem ok_eqS : ROk X (f2 (compareOp .Eq)) rEqS := ROk.p2 fun pins sh σ H g x y u v dx dy d Q e I r1 r2 sb p1 p2 q => by
  obtain ⟨b, e1, e2⟩ := Option.map_eq_some_iff.mp e
  subst e2
  obtain ⟨z1, z2⟩ := sEq_rep p1 p2 e1
  exact op_eq pins sh σ H x y u v Q I r1 r2 ⟨z1, by rw [z2]; exact q _ (.bl _)⟩
theorem ok_neS : ROk X (f2 (compareOp .NotEq)) rNeS := ROk.p2 fun pins sh σ H g x y u v dx dy d Q e I r1 r2 sb p1 p2 q => by
  obtain ⟨b, e1, e2⟩ := Option.map_eq_some_iff.mp e
  subst e2
  obtain ⟨z1, z2⟩ := sEq_rep p1 p2 e1
  exact op_ne pins sh σ H x y u v Q I r1 r2 ⟨z1, by rw [z2]; exact q _ (.bl _)⟩
end
end Zw

namespace Zw
open PySem L2 PyProof.Rows PySem.Spec ClX

section
variable {X : Cx} {E : En} {k : Nat}
/-- an instance of an own class in a heap -/
theorem ins_at {t : Ent} {pins : List (Addr × Obj)} {sh : Shared} {σ : L2.St} {H : Hp} {g : Gh} {s : Sto} {a dx : Addr} {c : Str} {fs : List (Str × V)} (I : Inv X pins σ H sh) (L : LRel X.K t g s σ H) (h : g.P a = some (.ins (He.ga X.K c) dx fs)) : ∃ ox od, PySem.W.InstAt sh.heap a ox (He.ga X.K c) od := by
  have ha : H a = some (.ins (He.ga X.K c) dx fs) := L.gr.sub.at_ h rfl
  obtain ⟨mA, O, _⟩ := ins_get I.hok ha
  obtain ⟨od, J, _⟩ := O.look
  exact ⟨_, _, J⟩
theorem att_meth (N : EnOk (md X) k E) {c f q : Str} (h : E.att c f = some (.meth q)) : ∃ ci fi, E.cl c = some ci ∧ ClsOk (md X) k E c ci ∧ E.fn q = some fi ∧ Meth X.K (He.ga X.K c) f (fi.adr X.K) ∧ FnIOk (md X) k fi := by
  obtain ⟨ci, h1, h2⟩ := En.att_some h
  obtain ⟨fi, h3, h4⟩ := (N.cl c ci h1).att f _ h2
  exact ⟨ci, fi, h1, N.cl c ci h1, h3, h4, N.fn q fi h3⟩
/-- the def behind an operator, called -/
theorem call_own (N : EnOk (md X) k E) {q : Str} {fi : FnI} (hr : Room k X.A) (hq : E.fn q = some fi) {t : Ent} {W : WX} (tk : TakesE X t W) {pins : List (Addr × Obj)} {sh : Shared} {σ : L2.St} {H : Hp} {g : Gh} {s : Sto} {xs : List V} {us : List Value} {ds : List Dat} {Q : VK}
    (I : Inv X pins σ H sh) (rv : Vals xs us) (L : LRel X.K t g s σ H) (r : RepsG X.K g xs ds) (q' : atE X.K t W g s σ H (E.call q ds s) Q) : wpAny (model X.prog X.w) X.A (call (.ref (fi.adr X.K)) us) (EP X pins σ Q) X.xe sh := by
  unfold En.call at q'
  rw [hq] at q'
  exact vop_fi (N.fn q fi hq) hr t W tk pins sh σ H g s xs us ds Q I rv L r q'
theorem call_back (N : EnOk (md X) k E) {q : Str} {fi : FnI} (hr : Room k X.A) (hq : E.fn q = some fi) {t : Ent} {W : WX} (tk : TakesE X t W) {pins : List (Addr × Obj)} {sh : Shared} {σ : L2.St} {H : Hp} {g : Gh} {s : Sto} {xs : List V} {us : List Value} {ds : List Dat} {Q : VK}
    (I : Inv X pins σ H sh) (rv : Vals xs us) (L : LRel X.K t g s σ H) (r : RepsG X.K g xs ds) (q' : atE X.K t W g s σ H (E.call q ds s) Q) : wpAny (model X.prog X.w) X.A (call (.ref (fi.adr X.K)) us) (PySem.W.CmpBack (EP X pins σ Q)) X.xe sh :=
  wpAny_mono (call_own N hr hq tk I rv L r q') (fun w s' ⟨z', H', I', rz, qz⟩ => SlX.cmpback rz ⟨z', H', I', rz, qz⟩) fun _ _ x => x
/-! ### binary operators of own classes -/
def En.right (E : En) (c : Str) : Dat → Bool
  | .ins c' _ => decide (c' = c)
  | .int _ => true
  | _ => false
def En.rBin (E : En) (nm : String) : Rule := fun ds => match ds with
  | [.ins c fs, y] => (match E.att c (dunder nm) with
    | some (.meth q) => if E.right c y = true ∧ nm ∈ opNames then some (E.call q [.ins c fs, y]) else none
    | _ => none)
  | [.int i, .ins c fs] => (match E.att c (dunder nm), E.att c (dunderR nm) with
    | some (.meth _), some (.meth q) => if nm ∈ opNames then some (E.call q [.ins c fs, .int i]) else none
    | _, _ => none)
  | _ => none
theorem refl_bin {op : Operator} {i : Int} {t : Tok} {y C f f0 : Addr} {oy : Obj} {od : Option Obj} {pins : List (Addr × Obj)} {σ : L2.St} {H : Hp} {s : Shared} {Q : Value → Shared → Prop} (I0 : Inv X pins σ H s) (I : PySem.W.InstAt s.heap y oy C od) (pl : oy.data = .plain) (hc : PySem.W.selfFirst X.K C = true) (ho : op.info.2 ∈ opNames)
    (hs : PySem.W.findIn X.K (.ref C) (PySem.dunder op.info.2) = some (some (.ref f0))) (hr : PySem.W.findIn X.K (.ref C) (dunderR op.info.2) = some (some (.ref f))) (hf : PySem.W.isFn X.K (.ref f) = true) (hsub : PySem.W.subIn X.K (.ref C) (.type "int") = some false)
    (h : wpAny (model X.prog X.w) X.A (call (.ref f) [.ref y, .int i t]) (PySem.W.CmpBack Q) X.xe s) : wpAny (model X.prog X.w) X.A (binaryOp op (.int i t) (.ref y)) Q X.xe s := by
  have gy : s.heap.get? y = some oy := I.at_
  cases op with
  | Add => exact bin_refl I0.kIn I hc hs hr hf hsub slot_int_add fills_int_add entry_int_add (args_int_add _ _) (fun A E Q q => by unfold Builtin.«int.__add__»; exact intBinary_declines gy pl q) h
  | Sub => exact bin_refl I0.kIn I hc hs hr hf hsub slot_int_sub fills_int_sub entry_int_sub (args_int_sub _ _) (fun A E Q q => by unfold Builtin.«int.__sub__»; exact intBinary_declines gy pl q) h
  | Mult => exact bin_refl I0.kIn I hc hs hr hf hsub slot_int_mul fills_int_mul entry_int_mul (args_int_mul _ _) (fun A E Q q => by unfold Builtin.«int.__mul__»; exact intBinary_declines gy pl q) h
  | FloorDiv => exact bin_refl I0.kIn I hc hs hr hf hsub slot_int_floordiv fills_int_floordiv entry_int_floordiv (args_int_floordiv _ _) (fun A E Q q => floordiv_declines gy pl q) h
  | Mod => exact bin_refl I0.kIn I hc hs hr hf hsub PyProof.Rows.slot_int_mod PyProof.Rows.fills_int_mod PyProof.Rows.entry_int_mod (PyProof.Rows.args_int_mod _ _) (fun A E Q q => by unfold Builtin.«int.__mod__»; exact intBinary_declines gy pl q) h
  | _ => exact absurd ho (by decide)
theorem ok_rBin (N : EnOk (md X) k E) (hr : Room k X.A) {op : Operator} {nm : String} (hi : op.info.2 = nm) : ROk X (f2 (binaryOp op)) (E.rBin nm) := fun t W tk pins sh σ H g s xs us ds m Q e I rv L rp q => by
  subst hi
  match xs, us, ds, rv, rp, e with
  | [x, y], [u, v], [dx, dy], .cons r1 (.cons r2 .nil), .cons p1 (.cons p2 .nil), e =>
    have rp : RepsG X.K g [x, y] [dx, dy] := .cons p1 (.cons p2 .nil)
    have rv : Vals [x, y] [u, v] := .cons r1 (.cons r2 .nil)
    cases p1 with
    | @ins a dxa c fs ds h kk r =>
      obtain rfl : u = Value.ref a := r1
      unfold En.rBin at e
      dsimp only at e
      cases ea : E.att c (dunder op.info.2) with
      | none => rw [ea] at e; cases e
      | some at_ =>
        rw [ea] at e
        cases at_ with
        | meth qn =>
          dsimp only at e
          by_cases z : E.right c dy = true ∧ op.info.2 ∈ opNames
          case neg => rw [if_neg z] at e; cases e
          rw [if_pos z] at e
          cases e
          obtain ⟨ci, fi, h1, C, h3, h4, h5⟩ := att_meth N ea
          obtain ⟨ox, od, J⟩ := ins_at I L h
          obtain ⟨mm, hF⟩ := I.fr
          have bk := call_back N hr h3 tk I rv L rp q
          obtain ⟨z1, z2⟩ := z
          cases p2 with
          | @ins b dxb c' fs' ds' h' kk' r' =>
            obtain rfl : v = Value.ref b := r2
            have ec : c' = c := of_decide_eq_true z1
            subst ec
            obtain ⟨oy, oe, J'⟩ := ins_at I L h'
            exact PySem.W.binop_K hF I.ok.mod.kin J J'.type C.sf h4.at_ h4.fn bk
          | int j =>
            obtain ⟨tj, rfl⟩ := r2
            obtain ⟨rc, hrc, hrp⟩ := C.more.ops _ z2
            obtain ⟨fo, ro, hfo, hro⟩ := N.ty.ity _ z2
            exact PySem.W.ksp_binT (T := "int") hF I.ok.mod.kin J rfl C.sf h4.at_ h4.fn hrc hrp hfo hro (C.more.os _ (by decide)) bk
          | _ => cases z1
        | _ => cases e
    | int i =>
      cases p2 with
      | @ins b dxb c fs ds h kk r =>
        obtain ⟨ti, rfl⟩ := r1
        obtain rfl : v = Value.ref b := r2
        unfold En.rBin at e
        dsimp only at e
        cases ea : E.att c (dunder op.info.2) with
        | none => rw [ea] at e; cases e
        | some at_ =>
          rw [ea] at e
          cases at_ with
          | meth q0 =>
            cases eb : E.att c (dunderR op.info.2) with
            | none => rw [eb] at e; cases e
            | some at_ =>
              rw [eb] at e
              cases at_ with
              | meth qn =>
                dsimp only at e
                by_cases z : op.info.2 ∈ opNames
                case neg => rw [if_neg z] at e; cases e
                rw [if_pos z] at e
                cases e
                obtain ⟨ci0, fi0, g1, C0, g3, g4, g5⟩ := att_meth N ea
                obtain ⟨ci, fi, h1, C, h3, h4, h5⟩ := att_meth N eb
                have ha : H b = some (.ins (He.ga X.K c) dxb fs) := L.gr.sub.at_ h rfl
                obtain ⟨mA, O, _⟩ := ins_get I.hok ha
                obtain ⟨od, J, _⟩ := O.look
                have bk := call_back N hr h3 tk I (xs := [.ref b, .int i]) (us := [.ref b, .int i ti]) (.cons rfl (.cons ⟨ti, rfl⟩ .nil)) L (ds := [.ins c ds, .int i]) (.cons (.ins h kk r) (.cons (.int i) .nil)) q
                exact refl_bin I J rfl C.sf z g4.at_ h4.at_ h4.fn (C.more.io _ (by decide)) bk
              | _ => cases e
          | _ => cases e
      | _ => cases e
    | _ => cases e
  | [], _, _, .nil, .nil, e => cases e
  | [_], _, _, .cons _ .nil, .cons _ .nil, e =>
    unfold En.rBin at e
    split at e <;> first | cases e | simp_all
  | _ :: _ :: _ :: _, _, _, .cons _ (.cons _ (.cons _ _)), .cons _ (.cons _ (.cons _ _)), e =>
    unfold En.rBin at e
    split at e <;> first | cases e | simp_all
end
end Zw

namespace Zw
open PySem L2 PyProof.Rows PySem.Spec ClX

/-! ### the type of a value -/
inductive Ty where
  | pl (T : String) | own (c : Str)
def Dat.typ : Dat → Option Ty
  | .non => some (.pl "NoneType") | .bl _ => some (.pl "bool") | .int _ => some (.pl "int") | .str _ => some (.pl "str")
  | .tup _ => some (.pl "tuple") | .lst _ => some (.pl "list") | .dic _ => some (.pl "dict") | .ins c _ => some (.own c)
  | _ => none
def Ty.val (K : PySem.W.Frag) : Ty → Value
  | .pl T => .type T
  | .own c => .ref (He.ga K c)
theorem typ_plain {d : Dat} {T : String} (h : d.typ = some (.pl T)) : T ∈ plainTys := by
  cases d <;> first | (cases h; done) | (cases h; decide)
section
variable {X : Cx} {E : En} {k : Nat}
/-- what isinstance and the comparisons ask of a value -/
theorem kit_of (N : EnOk (md X) k E) {t : Ent} {pins : List (Addr × Obj)} {sh : Shared} {σ : L2.St} {H : Hp} {g : Gh} {s : Sto} {x : V} {u : Value} {d : Dat} {T : Ty} (I : Inv X pins σ H sh) (L : LRel X.K t g s σ H) (rv : RelV x u) (r : RepG X.K g x d) (h : d.typ = some T) (hc : ∀ c, T = .own c → (E.cl c).isSome = true) :
    ∃ Ph, Ph sh.heap ∧ PySem.W.KitX X.K u (T.val X.K) Ph := by
  cases r with
  | non => cases h; cases (show u = Value.none from rv); exact ⟨_, True.intro, PySem.W.kitx_none⟩
  | bl b => cases h; cases (show u = Value.bool b from rv); exact ⟨_, True.intro, PySem.W.kitx_bool⟩
  | int i => cases h; obtain ⟨t, q⟩ := (show ∃ t, u = Value.int i t from rv); cases q; exact ⟨_, True.intro, PySem.W.kitx_int⟩
  | str y => cases h; obtain ⟨t, q⟩ := (show ∃ t, u = Value.str y t from rv); cases q; exact ⟨_, True.intro, PySem.W.kitx_str⟩
  | @tup a vs ds h1 r1 =>
    cases h; cases (show u = Value.ref a from rv)
    obtain ⟨its, _, ⟨o, e1, e2, _⟩, _⟩ := I.tuple (L.gr.sub.sqT h1)
    exact ⟨_, ⟨o, e1, e2⟩, PySem.W.kitx_tuple⟩
  | @lst a vs ds h1 r1 =>
    cases h; cases (show u = Value.ref a from rv)
    obtain ⟨its, _, ⟨o, n, e1, e2, _⟩, _⟩ := I.list (L.gr.sub.sqL h1)
    exact ⟨_, ⟨o, e1, e2⟩, PySem.W.kitx_list⟩
  | @dicK a kvs ds h1 kk r1 =>
    cases h; cases (show u = Value.ref a from rv)
    have z : ObjOk X.prog X.w H sh.heap a (.dK kvs) := by
      rcases L.gr.sub _ _ h1 with q | ⟨_, o, q⟩
      · exact I.hok a _ q
      · exact (I.hok a _ q).2
    obtain ⟨_, _, vs, _, o, es, ep, e1, e2, _⟩ := z
    exact ⟨_, ⟨o, e1, e2.1⟩, PySem.W.kitx_dict⟩
  | @dicT a kvs ds h1 kk r1 =>
    cases h; cases (show u = Value.ref a from rv)
    have z : ObjOk X.prog X.w H sh.heap a (.dT kvs) := by
      rcases L.gr.sub _ _ h1 with q | ⟨_, o, q⟩
      · exact I.hok a _ q
      · exact (I.hok a _ q).2
    obtain ⟨_, _, xs, _, o, es, ep, e1, e2, _⟩ := z
    exact ⟨_, ⟨o, e1, e2.1⟩, PySem.W.kitx_dict⟩
  | @ins a dx c fs ds h1 kk r1 =>
    cases h; cases (show u = Value.ref a from rv)
    have ha : H a = some (.ins (He.ga X.K c) dx fs) := L.gr.sub.at_ h1 rfl
    obtain ⟨mA, O, _⟩ := ins_get I.hok ha
    obtain ⟨od, J, _⟩ := O.look
    have hs := hc c rfl
    cases ec : E.cl c with
    | none => rw [ec] at hs; cases hs
    | some ci =>
      have C := N.cl c ci ec
      exact ⟨_, J, PySem.W.kitx_own (C.cls.get _) C.cls.hd C.more.ca N.ty.cn N.ty.ct C.more.cm⟩
  | _ => cases h
/-! ### isinstance -/
def isT (T0 T : String) : Bool := T0 == T || (T0 == "bool" && T == "int")
def En.isI (E : En) : Ty → Dat → Option Bool
  | .pl T0, .ty T => if T ∈ plainTys ∧ T0 ∈ plainTys then some (isT T0 T) else none
  | .pl T0, .cls c => if (E.cl c).isSome = true ∧ T0 ∈ plainTys then some false else none
  | .own c, .ty T => if T ∈ plainTys ∧ (E.cl c).isSome = true then some false else none
  | .own c, .cls c' => if (E.cl c').isSome = true then (match E.cl c with
    | some ci => some (decide (c' = c) || decide (c' ∈ ci.sup))
    | none => none) else none
  | _, _ => none
theorem isT_ok {K : PySem.W.Frag} : ∀ T0 ∈ plainTys, ∀ T ∈ plainTys, PySem.W.kitOne K (.type T0) (.type T) = some (isT T0 T) := by
  simp only [plainTys, List.forall_mem_cons, List.not_mem_nil, false_implies, implies_true, and_true]
  refine ⟨⟨?_, ?_, ?_, ?_, ?_, ?_, ?_⟩, ⟨?_, ?_, ?_, ?_, ?_, ?_, ?_⟩, ⟨?_, ?_, ?_, ?_, ?_, ?_, ?_⟩, ⟨?_, ?_, ?_, ?_, ?_, ?_, ?_⟩, ⟨?_, ?_, ?_, ?_, ?_, ?_, ?_⟩, ⟨?_, ?_, ?_, ?_, ?_, ?_, ?_⟩, ⟨?_, ?_, ?_, ?_, ?_, ?_, ?_⟩⟩ <;> kernel_rfl
theorem meta_ok : ∀ T ∈ plainTys, PySem.W.kitMeta T = true := by
  simp only [plainTys, List.forall_mem_cons, List.not_mem_nil, false_implies, implies_true, and_true]
  refine ⟨?_, ?_, ?_, ?_, ?_, ?_, ?_⟩ <;> kernel_rfl
theorem kitOne_ref {K : PySem.W.Frag} {t : Value} {C : Addr} {b : Bool} (n : t ≠ .ref C) (ic : ((PySem.W.clsIn K C).isSome && PySem.W.typeIn K (.ref C) == some (.type "type")) = true) (h : PySem.W.subIn K t (.ref C) = some b) : PySem.W.kitOne K t (.ref C) = some b := by
  have n' : (t == Value.ref C) = false := Bool.eq_false_iff.mpr fun q => n (beq_iff_eq.mp q)
  unfold PySem.W.kitOne PySem.W.kitCls
  rw [n']
  dsimp only
  rw [if_neg (by decide), if_pos ic]
  exact h
theorem kitOne_ty {K : PySem.W.Frag} {t : Value} {T : String} {b : Bool} (n : t ≠ .type T) (ic : PySem.W.kitMeta T = true) (h : PySem.W.subIn K t (.type T) = some b) : PySem.W.kitOne K t (.type T) = some b := by
  have n' : (t == Value.type T) = false := Bool.eq_false_iff.mpr fun q => n (beq_iff_eq.mp q)
  unfold PySem.W.kitOne PySem.W.kitCls
  rw [n']
  dsimp only
  rw [if_neg (by decide), if_pos ic]
  exact h
theorem isI_ok (N : EnOk (md X) k E) {T : Ty} {d : Dat} {b : Bool} {y : V} {v : Value} {g : Gh} (rv : RelV y v) (r : RepG X.K g y d) (h : E.isI T d = some b) : PySem.W.kitOne X.K (T.val X.K) v = some b := by
  cases T with
  | pl T0 =>
    cases r with
    | ty T =>
      unfold En.isI at h
      dsimp only at h
      obtain rfl : v = Value.type T := rv
      by_cases z : T ∈ plainTys ∧ T0 ∈ plainTys
      · rw [if_pos z] at h; rw [← h]; exact isT_ok T0 z.2 T z.1
      · rw [if_neg z] at h; cases h
    | cls c =>
      unfold En.isI at h
      dsimp only at h
      obtain rfl : v = Value.ref (He.ga X.K c) := rv
      by_cases z : (E.cl c).isSome = true ∧ T0 ∈ plainTys
      · rw [if_pos z] at h; cases h
        cases ec : E.cl c with
        | none => rw [ec] at z; cases z.1
        | some ci =>
          have C := N.cl c ci ec
          exact kitOne_ref (fun z => by cases z) C.more.ic (C.more.os T0 z.2)
      · rw [if_neg z] at h; cases h
    | _ => cases h
  | own c =>
    cases r with
    | ty T =>
      unfold En.isI at h
      dsimp only at h
      obtain rfl : v = Value.type T := rv
      by_cases z : T ∈ plainTys ∧ (E.cl c).isSome = true
      · rw [if_pos z] at h; cases h
        cases ec : E.cl c with
        | none => rw [ec] at z; cases z.2
        | some ci =>
          have C := N.cl c ci ec
          exact kitOne_ty (fun z => by cases z) (meta_ok T z.1) (C.more.io T z.1)
      · rw [if_neg z] at h; cases h
    | cls c' =>
      unfold En.isI at h
      dsimp only at h
      obtain rfl : v = Value.ref (He.ga X.K c') := rv
      by_cases z : (E.cl c').isSome = true
      · rw [if_pos z] at h
        cases ec : E.cl c with
        | none => rw [ec] at h; cases h
        | some ci =>
          rw [ec] at h
          cases h
          cases ec' : E.cl c' with
          | none => rw [ec'] at z; cases z
          | some ci' =>
            have C := N.cl c ci ec
            have C' := N.cl c' ci' ec'
            by_cases e : c' = c
            · subst e
              unfold PySem.W.kitOne
              rw [if_pos (show (Ty.val X.K (Ty.own c') == Value.ref (He.ga X.K c')) = true from beq_iff_eq.mpr rfl)]
              simp
            · have ne : He.ga X.K c ≠ He.ga X.K c' := C.more.ne c' ci' ec' fun z => e z.symm
              have s := C.more.sub c' ci' ec'
              refine kitOne_ref (fun z => ne (Value.ref.inj z)) C'.more.ic (s.trans ?_)
              simp [e]
      · rw [if_neg z] at h; cases h
    | _ => cases h
theorem rel_nb {x : V} {u : Value} {i : String} (r : RelV x u) : u ≠ .builtin i := fun z => by
  subst z
  cases x with
  | non => exact Value.noConfusion (show Value.builtin i = Value.none from r)
  | bl b => exact Value.noConfusion (show Value.builtin i = Value.bool b from r)
  | int j => obtain ⟨_, q⟩ := (show ∃ t, Value.builtin i = Value.int j t from r); exact Value.noConfusion q
  | str j => obtain ⟨_, q⟩ := (show ∃ t, Value.builtin i = Value.str j t from r); exact Value.noConfusion q
  | byt j => obtain ⟨_, q⟩ := (show ∃ t, Value.builtin i = Value.bytes j t from r); exact Value.noConfusion q
  | flt j => obtain ⟨_, q⟩ := (show ∃ t, Value.builtin i = Value.float j t from r); exact Value.noConfusion q
  | ref a => exact Value.noConfusion (show Value.builtin i = Value.ref a from r)
  | ty n => exact Value.noConfusion (show Value.builtin i = Value.type n from r)
def En.rIsi (E : En) : Rule := fun ds => match ds with
  | [x, c] => (match x.typ with
    | some T => (match T with
      | .own c0 => if (E.cl c0).isSome = true then (E.isI T c).map fun b => pur (.bl b) else none
      | _ => (E.isI T c).map fun b => pur (.bl b))
    | none => none)
  | _ => none
theorem ok_isi (N : EnOk (md X) k E) : ROk X (fun us => call (.builtin "isinstance") us) E.rIsi := fun t W tk pins sh σ H g s xs us ds m Q e I rv L rp q => by
  match xs, us, ds, rv, rp, e with
  | [x, y], [u, v], [dx, dy], .cons r1 (.cons r2 .nil), .cons p1 (.cons p2 .nil), e =>
    unfold En.rIsi at e
    dsimp only at e
    cases et : dx.typ with
    | none => rw [et] at e; cases e
    | some T =>
      rw [et] at e
      dsimp only at e
      have key : ∃ b, E.isI T dy = some b ∧ m = pur (.bl b) ∧ ∀ c, T = .own c → (E.cl c).isSome = true := by
        cases T with
        | pl T0 =>
          dsimp only at e
          obtain ⟨b, e1, e2⟩ := Option.map_eq_some_iff.mp e
          exact ⟨b, e1, e2.symm, fun c z => by cases z⟩
        | own c0 =>
          dsimp only at e
          by_cases z : (E.cl c0).isSome = true
          · rw [if_pos z] at e
            obtain ⟨b, e1, e2⟩ := Option.map_eq_some_iff.mp e
            exact ⟨b, e1, e2.symm, fun c z' => by cases z'; exact z⟩
          · rw [if_neg z] at e; cases e
      obtain ⟨b, e1, rfl, e3⟩ := key
      obtain ⟨Ph, ph, kx⟩ := kit_of N I L r1 p1 et e3
      exact PySem.W.kia_one kx I.kIn ph (isI_ok N r2 p2 e1) (rel_nb r1) fun tk' => ⟨.bl b, H, I.tok _, rfl, at_here L q (.bl b)⟩
  | [], _, _, .nil, .nil, e => cases e
  | [_], _, _, .cons _ .nil, .cons _ .nil, e => cases e
  | _ :: _ :: _ :: _, _, _, .cons _ (.cons _ (.cons _ _)), .cons _ (.cons _ (.cons _ _)), e => cases e
end
end Zw

namespace Zw
open PySem PySem.W PySem.Calls PyProof.Rows

section
variable {prog : Program} {w : World} {M : Model} {A : Around} {E : Value → Shared → Prop} {s : Shared} {K : Frag} {x C y f : Addr} {ox : Obj} {od : Option Obj} {b ta tb : Value}
theorem check_obj {id n : String} {rest : List Value} {Q : Unit → Shared → Prop} (hk : builtinKind id = some .slot) (hs : splitId id = some ("object", n)) (ha : argsOk id ⟨.ref x :: rest, []⟩) (X : K.In s.heap) (I : InstAt s.heap x ox C od) (hm : mroIn K C (.type "object") = some true) (hq : Q () s) :
    wpAny M A (checkBuiltinCall id ⟨.ref x :: rest, []⟩) Q E s := by
  simp only [checkBuiltinCall, hk, hs]
  refine wpAny_bind ?_
  unfold isInstance
  refine wpAny_bind (I.type.here ((looks_subIn X (show subIn K (.ref C) (.type "object") = some true from hm)).here ?_))
  simp only [Bool.not_true, Bool.false_eq_true, if_false]
  cases hsig : Manifest.signature? id with
  | none => exact wpAny_pure hq
  | some sig =>
    simp only [argsOk, hsig] at ha
    have h2 : Bind.checkArgs id sig ⟨.ref x :: rest, []⟩ = pure () := ha
    show wpAny M A (Bind.checkArgs id sig ⟨.ref x :: rest, []⟩) Q E _
    rw [h2]; exact wpAny_pure hq
theorem ifBound_obj {name : Str} {id : String} {args : List Value} {Q : Option Value → Shared → Prop} (X : K.In s.heap) (I : InstAt s.heap x ox C od) (hs : findIn K (.ref C) name = some (some (.builtin id))) (hb : ∀ self, bindSpecial (.builtin id) self = pure (.builtin id, [self]))
    (h : wpAny M A (call (.builtin id) (.ref x :: args)) (fun v => Q (some v)) E s) : wpAny M A (callSpecialIfBound? (.ref x) name args) Q E s := by
  simp only [callSpecialIfBound?, bindSpecialIfBound?]
  refine wpAny_holding (wpAny_bind (wpAny_bind (wpAny_bind (I.type.here ((looks_findIn X hs).here ?_)))))
  simp only [hb]
  refine wpAny_bind (wpAny_askSetting (wpAny_ite ?_))
  have fin : wpAny M A (call (.builtin id) ([.ref x] ++ args) >>= fun v => pure (some v)) Q E s := wpAny_bind (wpAny_mono h (fun v s' h' => wpAny_pure h') fun _ _ h' => h')
  split
  · exact wpAny_bind (wpAny_pure (wpAny_pure fin))
  · exact wpAny_tryCatch (wpAny_bind (wpAny_pure (wpAny_pure fin)))
structure DSlot (name : Str) (id : String) (n : String) : Prop where
  bind : ∀ self, bindSpecial (.builtin id) self = pure (.builtin id, [self])
  kind : builtinKind id = some .slot
  split : splitId id = some ("object", n)
  args : ∀ a b, argsOk id ⟨[a, b], []⟩
  plain : plainId id = true
theorem sl_lt : PySem.Slot "object" "__lt__" "object.__lt__" := .of (owner := "object") (n := "__lt__") (by rw [typeLookup_type, builtinLookup_eq_fast]; kernel_rfl) (by decide +kernel) (by decide +kernel) (by decide +kernel) (.inl (by decide +kernel)) (by rw [isSubtype_type]; kernel_rfl)
theorem sl_le : PySem.Slot "object" "__le__" "object.__le__" := .of (owner := "object") (n := "__le__") (by rw [typeLookup_type, builtinLookup_eq_fast]; kernel_rfl) (by decide +kernel) (by decide +kernel) (by decide +kernel) (.inl (by decide +kernel)) (by rw [isSubtype_type]; kernel_rfl)
theorem sl_gt : PySem.Slot "object" "__gt__" "object.__gt__" := .of (owner := "object") (n := "__gt__") (by rw [typeLookup_type, builtinLookup_eq_fast]; kernel_rfl) (by decide +kernel) (by decide +kernel) (by decide +kernel) (.inl (by decide +kernel)) (by rw [isSubtype_type]; kernel_rfl)
theorem sl_ge : PySem.Slot "object" "__ge__" "object.__ge__" := .of (owner := "object") (n := "__ge__") (by rw [typeLookup_type, builtinLookup_eq_fast]; kernel_rfl) (by decide +kernel) (by decide +kernel) (by decide +kernel) (.inl (by decide +kernel)) (by rw [isSubtype_type]; kernel_rfl)
theorem dsl_lt : DSlot "__lt__" "object.__lt__" "__lt__" := ⟨sl_lt.bind, by decide +kernel, by decide +kernel, fun a b => by unfold argsOk; kernel_rfl, sl_lt.plain⟩
theorem dsl_le : DSlot "__le__" "object.__le__" "__le__" := ⟨sl_le.bind, by decide +kernel, by decide +kernel, fun a b => by unfold argsOk; kernel_rfl, sl_le.plain⟩
theorem dsl_gt : DSlot "__gt__" "object.__gt__" "__gt__" := ⟨sl_gt.bind, by decide +kernel, by decide +kernel, fun a b => by unfold argsOk; kernel_rfl, sl_gt.plain⟩
theorem dsl_ge : DSlot "__ge__" "object.__ge__" "__ge__" := ⟨sl_ge.bind, by decide +kernel, by decide +kernel, fun a b => by unfold argsOk; kernel_rfl, sl_ge.plain⟩
theorem dsl_ne : DSlot "__ne__" "object.__ne__" "__ne__" := ⟨F.cmp_object.ne.bind, by decide +kernel, by decide +kernel, fun a b => by unfold argsOk; kernel_rfl, F.cmp_object.ne.plain⟩
theorem dec_lt {Q : Fin → Shared → Prop} (h : Q (.done (.ret .notImplemented)) s) : wpAny M A (Builtin.«object.__lt__» ⟨[.ref x, b], []⟩) Q E s := by
  unfold Builtin.«object.__lt__»; first | exact h | (repeat wp_step) <;> exact h
theorem dec_le {Q : Fin → Shared → Prop} (h : Q (.done (.ret .notImplemented)) s) : wpAny M A (Builtin.«object.__le__» ⟨[.ref x, b], []⟩) Q E s := by
  unfold Builtin.«object.__le__»; first | exact h | (repeat wp_step) <;> exact h
theorem dec_gt {Q : Fin → Shared → Prop} (h : Q (.done (.ret .notImplemented)) s) : wpAny M A (Builtin.«object.__gt__» ⟨[.ref x, b], []⟩) Q E s := by
  unfold Builtin.«object.__gt__»; first | exact h | (repeat wp_step) <;> exact h
theorem dec_ge {Q : Fin → Shared → Prop} (h : Q (.done (.ret .notImplemented)) s) : wpAny M A (Builtin.«object.__ge__» ⟨[.ref x, b], []⟩) Q E s := by
  unfold Builtin.«object.__ge__»; first | exact h | (repeat wp_step) <;> exact h
theorem ent_lt : entryFor table "object.__lt__" = some Builtin.«object.__lt__» := entryFor_of_tree (by kernel_rfl)
theorem ent_le : entryFor table "object.__le__" = some Builtin.«object.__le__» := entryFor_of_tree (by kernel_rfl)
theorem ent_gt : entryFor table "object.__gt__" = some Builtin.«object.__gt__» := entryFor_of_tree (by kernel_rfl)
theorem ent_ge : entryFor table "object.__ge__" = some Builtin.«object.__ge__» := entryFor_of_tree (by kernel_rfl)
/-- object's own order declines -/
theorem tryC_dec {name : Str} {id n : String} {B : Builtin} {Q : Option Value → Shared → Prop} (X : K.In s.heap) (I : InstAt s.heap x ox C od) (hm : mroIn K C (.type "object") = some true) (hs : findIn K (.ref C) name = some (some (.builtin id))) (D : DSlot name id n) (en : entryFor table id = some B)
    (dec : ∀ (A : Around) (Q : Fin → Shared → Prop), Q (.done (.ret .notImplemented)) s → wpAny (model prog w) A (B ⟨[.ref x, b], []⟩) Q E s) (h : Q none s) : wpAny (model prog w) A (tryCompare (.ref x) name b) Q E s := by
  unfold tryCompare
  refine wpAny_bind (ifBound_obj X I hs D.bind (wpAny_call (codeAny_call_builtin D.plain en (check_obj D.kind D.split (D.args _ _) X I hm (dec _ _ ?_)))))
  exact wpAny_pure h
/-- object's own != asks == -/
theorem tryC_ne {Q : Option Value → Shared → Prop} (X : K.In s.heap) (I : InstAt s.heap x ox C od) (hm : mroIn K C (.type "object") = some true) (hs : findIn K (.ref C) "__ne__" = some (some (.builtin "object.__ne__"))) (he : findIn K (.ref C) "__eq__" = some (some (.ref f))) (hf : isFn K (.ref f) = true) (hu : A.units + 1 < cLine)
    (h : wpAny (model prog w) A.in1 (call (.ref f) [.ref x, b]) (fun v s' => ∃ k, v = .bool k ∧ Q (some (.bool (!k))) s') E s) : wpAny (model prog w) A (tryCompare (.ref x) "__ne__" b) Q E s := by
  unfold tryCompare
  refine wpAny_bind (ifBound_obj X I hs dsl_ne.bind (wpAny_call (codeAny_call_builtin dsl_ne.plain F.cmpEntry_ne (check_obj dsl_ne.kind dsl_ne.split (dsl_ne.args _ _) X I hm ?_))))
  unfold Builtin.«object.__ne__»
  repeat (first
    | with_reducible refine wpAny_cRoomFor hu ?_
    | (refine wpAny_bind (m := callSpecialIfBound? (.ref x) (Str.ofString "__eq__") [b]) (ifBound_K X I he hf (wpAny_mono h (fun r s' hr => by
          obtain ⟨k, rfl, hq⟩ := hr
          repeat (first | exact hq | exact wpAny_pure hq | exact wpAny_truthy_bool hq | (refine wpAny_bind (m := truthy (.bool _)) (wpAny_truthy_bool ?_)) | wp_step)) fun _ _ e => e)))
    | wp_step)
/-- an own comparison -/
theorem tryC_own {name : Str} {Q : Value → Shared → Prop} (X : K.In s.heap) (I : InstAt s.heap x ox C od) (hs : findIn K (.ref C) name = some (some (.ref f))) (hf : isFn K (.ref f) = true)
    (h : wpAny M A (call (.ref f) [.ref x, b]) (PySem.W.CmpBack Q) E s) : wpAny M A (tryCompare (.ref x) name b) (fun r s' => ∃ v, r = some v ∧ Q v s') E s := by
  unfold tryCompare
  refine wpAny_bind (ifBound_K X I hs hf (wpAny_mono h (fun v s' hv => ?_) fun _ _ e => e))
  cases v <;> first | exact hv.elim | exact wpAny_pure ⟨_, rfl, hv⟩
/-- the comparison, by its two tries -/
theorem rich_of {op : CmpOp} {a : Value} {rf : Bool} {Q : Value → Shared → Prop} (hu : A.units < cLine) (h1 : oneThing? op a b = none) (X : K.In s.heap) (ha : Looks M s.heap (typeOf a) ta) (hb : Looks M s.heap (typeOf b) tb) (hr : if ta = tb then rf = false else subIn K tb ta = some rf)
    (h : if rf = true then wpAny M A (tryCompare b (cmpInfo op).2.2 a) (fun r s' => match r with | some v => Q v s' | none => wpAny M A (tryCompare a (cmpInfo op).2.1 b) (fun r s' => ∃ v, r = some v ∧ Q v s') E s') E s
      else wpAny M A (tryCompare a (cmpInfo op).2.1 b) (fun r s' => match r with | some v => Q v s' | none => wpAny M A (tryCompare b (cmpInfo op).2.2 a) (fun r s' => ∃ v, r = some v ∧ Q v s') E s') E s) :
    wpAny M A (richCompare op a b) Q E s := by
  unfold richCompare
  simp only [h1]
  refine wpAny_holding (wpAny_bind (wpAny_cRoomFor hu ?_))
  refine wpAny_bind (ha.here (wpAny_bind (hb.here ?_)))
  have go : ∀ (k : Bool → Sem Value), wpAny M A (k rf) Q E s → wpAny M A (if (ta != tb) = true then isSubtype tb ta >>= k else pure false >>= k) Q E s := fun k hk => by
    by_cases e : ta = tb
    · rw [if_pos e] at hr
      subst hr
      rw [if_neg (by simp [e])]
      exact wpAny_bind (wpAny_pure hk)
    · rw [if_neg e] at hr
      rw [if_pos (by simp [e])]
      exact wpAny_bind ((looks_subIn X hr).here hk)
  refine go _ ?_
  cases rf with
  | true =>
    rw [if_pos rfl] at h
    simp only [if_true]
    refine wpAny_bind (wpAny_mono h (fun r s' z => ?_) fun _ _ e => e)
    cases r with
    | some v => exact wpAny_bind (wpAny_rule (wpAny_pure z))
    | none =>
      refine wpAny_bind (wpAny_mono z (fun r s' z => ?_) fun _ _ e => e)
      obtain ⟨v, rfl, hq⟩ := z
      exact wpAny_pure hq
  | false =>
    rw [if_neg (by decide)] at h
    simp only [Bool.false_eq_true, if_false]
    refine wpAny_bind (wpAny_mono h (fun r s' z => ?_) fun _ _ e => e)
    cases r with
    | some v => exact wpAny_pure z
    | none =>
      simp only [Bool.not_false, if_true]
      refine wpAny_bind (wpAny_mono z (fun r s' z => ?_) fun _ _ e => e)
      obtain ⟨v, rfl, hq⟩ := z
      exact wpAny_pure hq
end
end Zw

namespace Zw
open PySem L2 PyProof.Rows PySem.Spec ClX

def RO (K : PySem.W.Frag) (g : Gh) : Option V → Option Dat → Prop
  | some v, some d => RepG K g v d
  | none, none => True
  | _, _ => False
def OP (X : Cx) (pins : List (Addr × Obj)) (σ : L2.St) (Q : Option V → Hp → Prop) (o : Option Value) (sh : Shared) : Prop := ∃ (z : Option V) (H' : Hp), Inv X pins σ H' sh ∧ (match z, o with | some z, some u => RelV z u | none, none => True | _, _ => False) ∧ Q z H'
def TryOk (X : Cx) (name : Str) (r : Dat → Dat → Option (M (Option Dat))) : Prop := ∀ (t : Ent) (W : WX), TakesE X t W → ∀ (pins : List (Addr × Obj)) (sh : Shared) (σ : L2.St) (H : Hp) (g : Gh) (s : Sto) (x y : V) (u v : Value) (dx dy : Dat) (m : M (Option Dat)) (Q : Option V → Hp → Prop),
  r dx dy = some m → Inv X pins σ H sh → RelV x u → RelV y v → LRel X.K t g s σ H → RepG X.K g x dx → RepG X.K g y dy → atG X.K t W (RO X.K) g s σ H (m s) Q → wpAny (model X.prog X.w) X.A (tryCompare u name v) (OP X pins σ Q) X.xe sh
def cmpNames : List Str := ["__eq__", "__ne__", "__lt__", "__le__", "__gt__", "__ge__"]
def isIns : Dat → Bool
  | .ins _ _ => true
  | _ => false
def En.tryD (E : En) (name : Str) (x y : Dat) : Option (M (Option Dat)) := match x with
  | .int _ => if isIns y = true ∧ name ∈ cmpNames then some (pur none) else none
  | .ins c fs => (match E.att c name with
    | some (.meth q) => some (bnd (E.call q [x, y]) fun r => pur (some r))
    | some .dflt => if name = "__ne__" then (match E.att c "__eq__" with
        | some (.meth q) => some (bnd (E.call q [x, y]) fun r => match r with | .bl b => pur (some (.bl (!b))) | _ => fail)
        | _ => none)
      else if name = "__eq__" then none else some (pur none)
    | _ => none)
  | _ => none
section
variable {X : Cx} {E : En} {k : Nat}
theorem code_in1 {fi : FnI} (F : FnIOk (md X) k fi) (hr : Room (k + 1) X.A) {t : Ent} {W : WX} (tk : TakesE X t W) {pins : List (Addr × Obj)} {sh : Shared} {σ : L2.St} {H : Hp} {g : Gh} {s : Sto} {xs : List V} {us : List Value} {ds : List Dat} {Q : VK}
    (I : Inv X pins σ H sh) (rv : Vals xs us) (L : LRel X.K t g s σ H) (r : RepsG X.K g xs ds) (q : atE X.K t W g s σ H (fi.run ds s) Q) : wpAny (model X.prog X.w) X.A.in1 (call (.ref (fi.adr X.K)) us) (EP X pins σ Q) X.xe sh := by
  unfold FnI.run at q
  by_cases h : fi.par - fi.dfl.length ≤ ds.length ∧ ds.length ≤ fi.par
  case neg => rw [if_neg h] at q; exact q.elim
  rw [if_pos h] at q
  obtain ⟨fd, ps, hl, Fk, dvs, dv, rd, rg, hb⟩ := (F.2 ds.length h.1 h.2).ex
  have hu : us.length = ds.length := by rw [← rv.length, r.length]
  generalize hdf : fi.dfl.drop (ds.length + fi.dfl.length - fi.par) = dfl at *
  have sp : spOf X.K ps.length fi.con (xs ++ dvs) H Q (WE W σ) := by
    refine ⟨by rw [List.length_append, r.length, (rg g).length, hl], g, s.cs, ds ++ dfl, L.gr, r.append (rg g), ?_⟩
    unfold callM at q
    cases e : fi.con (ds ++ dfl) s.cs with
    | ret d cs' => rw [e] at q; exact fun g' v H' e' gr r' => q g' v H' e'.toEK (L.call e' gr) r'
    | exc x cs' => rw [e] at q; exact fun g' H' cls dd e' gr r' => q g' H' cls dd e'.toEK (L.call e' gr) r'
    | stuck => rw [e] at q; exact q.elim
  refine wpAny_call (codeAny_mono (Fk.run X.A.in1 X.stack sh H ⟨us, []⟩ (us ++ dv) (xs ++ dvs) Q (WE W σ) hr.in1 I.env0.in1 (hb sh us I.kIn hu) (rv.append rd) sp) fun r s' hq => ?_)
  cases r with
  | error e => exact passAt tk.tk σ pins H sh e s' I hq
  | ok fl =>
    cases fl with
    | ret u => exact I.after hq
    | next => exact False.elim hq
    | brk => exact False.elim hq
    | cont => exact False.elim hq
theorem tryC_int {prog : Program} {w : World} {A : Around} {xe : Value → Shared → Prop} {s : Shared} {name : Str} {id : String} {B : Builtin} {i : Int} {t : Tok} {y : Addr} {Q : Option Value → Shared → Prop} (slot : PySem.Slot "int" name id) (entry : entryFor table id = some B) (args : argsOk id ⟨[.int i t, .ref y], []⟩)
    (decl : ∀ (A : Around) (E : Value → Shared → Prop) (Q : Fin → Shared → Prop), Q (.done (.ret .notImplemented)) s → wpAny (model prog w) A (B ⟨[.int i t, .ref y], []⟩) Q E s) (hq : Q none s) : wpAny (model prog w) A (tryCompare (.int i t) name (.ref y)) Q xe s :=
  wpAny_tryCompare_declines (T := "int") rfl slot (wpAny_call (codeAny_call_builtin slot.plain entry (slot.check _ _ _ _ _ _ _ _ rfl args (decl _ _ _ ⟨rfl, hq⟩))))
theorem try_ok (N : EnOk (md X) k E) (hr : Room (k + 1) X.A) (name : Str) : TryOk X name (E.tryD name) := fun t W tk pins sh σ H g s x y u v dx dy m Q e I r1 r2 L p1 p2 q => by
  have rp : RepsG X.K g [x, y] [dx, dy] := .cons p1 (.cons p2 .nil)
  have rv : Vals [x, y] [u, v] := .cons r1 (.cons r2 .nil)
  cases p1 with
  | @ins a dxa c fs ds h kk r =>
    obtain rfl : u = Value.ref a := r1
    have ha : H a = some (.ins (He.ga X.K c) dxa fs) := L.gr.sub.at_ h rfl
    obtain ⟨mA, O, _⟩ := ins_get I.hok ha
    obtain ⟨od, J, _⟩ := O.look
    unfold En.tryD at e
    dsimp only at e
    cases ea : E.att c name with
    | none => rw [ea] at e; cases e
    | some at_ =>
      rw [ea] at e
      cases at_ with
      | meth qn =>
        cases e
        obtain ⟨ci, fi, h1, C, h3, h4, h5⟩ := att_meth N ea
        have bk := call_back N (hr.mono (Nat.le_succ k)) h3 tk I rv L rp (Q := fun v H1 => ∃ g1 s1 d, EK [] g s.cs H g1 s1.cs H1 ∧ LRel X.K t g1 s1 σ H1 ∧ RepG X.K g1 v d ∧ atG X.K t W (RO X.K) g1 s1 σ H1 (pur (some d) s1) Q)
          (at_seq q fun d g1 s1 v H1 ek L1 r q1 => ⟨g1, s1, d, ek, L1, r, q1⟩)
        refine wpAny_mono (tryC_own I.kIn J h4.at_ h4.fn bk) (fun o s' z => ?_) fun _ _ e => e
        obtain ⟨w', rfl, z', H', I', rz, g1, s1, d, ek, L1, rd, q1⟩ := z
        exact ⟨some z', H', I', rz, at_here (v := some z') L1 q1 rd⟩
      | dflt =>
        dsimp only at e
        obtain ⟨ci, h1, h2⟩ := En.att_some ea
        have C := N.cl c ci h1
        obtain ⟨hf, hd⟩ := C.att name _ h2
        by_cases n1 : name = "__ne__"
        · rw [if_pos n1] at e
          subst n1
          cases eb : E.att c "__eq__" with
          | none => rw [eb] at e; cases e
          | some at_ =>
            rw [eb] at e
            cases at_ with
            | meth qn =>
              cases e
              obtain ⟨ci', fi, g1, C', g3, g4, g5⟩ := att_meth N eb
              refine tryC_ne I.kIn J C.more.cm hd g4.at_ g4.fn (by have := hr.un; omega) (wpAny_mono (code_in1 g5 hr tk I rv L rp (Q := fun v H1 => ∃ g1 s1 d, EK [] g s.cs H g1 s1.cs H1 ∧ LRel X.K t g1 s1 σ H1 ∧ RepG X.K g1 v d ∧ atG X.K t W (RO X.K) g1 s1 σ H1 ((match d with | .bl b => pur (some (.bl (!b))) | _ => fail : M (Option Dat)) s1) Q) (?_)) (fun w' s' z => ?_) fun _ _ e => e)
              · have q' := q
                unfold En.call at q'
                rw [g3] at q'
                exact at_seq q' fun d g1 s1 v H1 ek L1 r q1 => ⟨g1, s1, d, ek, L1, r, q1⟩
              · obtain ⟨z', H', I', rz, g1, s1, d, ek, L1, rd, q1⟩ := z
                cases rd with
                | bl b =>
                  obtain rfl : w' = Value.bool b := rz
                  exact ⟨b, rfl, some (.bl (!b)), H', I', rfl, at_here (R := RO X.K) (d := some (.bl (!b))) (v := some (V.bl (!b))) L1 q1 (show RepG X.K g1 (.bl (!b)) (.bl (!b)) from .bl _)⟩
                | _ => exact q1.elim
            | _ => cases e
        · rw [if_neg n1] at e
          by_cases n2 : name = "__eq__"
          · rw [if_pos n2] at e; cases e
          · rw [if_neg n2] at e
            cases e
            have fin : OP X pins σ Q none sh := ⟨none, H, I, True.intro, at_here (v := none) L q True.intro⟩
            simp only [List.mem_cons, List.not_mem_nil, or_false] at hf
            rcases hf with rfl | rfl | rfl | rfl | rfl | rfl
            · exact absurd rfl n2
            · exact absurd rfl n1
            · exact tryC_dec I.kIn J C.more.cm hd dsl_lt ent_lt (fun A Q q => dec_lt q) fin
            · exact tryC_dec I.kIn J C.more.cm hd dsl_le ent_le (fun A Q q => dec_le q) fin
            · exact tryC_dec I.kIn J C.more.cm hd dsl_gt ent_gt (fun A Q q => dec_gt q) fin
            · exact tryC_dec I.kIn J C.more.cm hd dsl_ge ent_ge (fun A Q q => dec_ge q) fin
      | _ => cases e
  | int i =>
    unfold En.tryD at e
    dsimp only at e
    by_cases z : isIns dy = true ∧ name ∈ cmpNames
    case neg => rw [if_neg z] at e; cases e
    rw [if_pos z] at e
    cases e
    cases p2 with
    | @ins b dxb c fs ds h kk r =>
      obtain ⟨ti, rfl⟩ := r1
      obtain rfl : v = Value.ref b := r2
      have fin : OP X pins σ Q none sh := ⟨none, H, I, True.intro, at_here (v := none) L q True.intro⟩
      have ha : H b = some (.ins (He.ga X.K c) dxb fs) := L.gr.sub.at_ h rfl
      obtain ⟨mA, O, _⟩ := ins_get I.hok ha
      obtain ⟨od, J, _⟩ := O.look
      have gy := J.at_
      have hf := z.2
      unfold cmpNames at hf
      simp only [List.mem_cons, List.not_mem_nil, or_false] at hf
      rcases hf with rfl | rfl | rfl | rfl | rfl | rfl
      · exact tryC_int PySem.F.slot_int_eq PySem.F.entry_int_eq (PySem.F.args_int_eq_2 _ _) (fun A E Q q => by unfold Builtin.«int.__eq__»; exact intBinary_declines gy rfl q) fin
      · exact tryC_int PySem.F.slot_int_ne PySem.F.entry_int_ne (PySem.F.args_int_ne_2 _ _) (fun A E Q q => by unfold Builtin.«int.__ne__»; exact intBinary_declines gy rfl q) fin
      · exact tryC_int PySem.F.slot_int_lt PySem.F.entry_int_lt (PySem.F.args_int_lt_2 _ _) (fun A E Q q => by unfold Builtin.«int.__lt__»; exact intBinary_declines gy rfl q) fin
      · exact tryC_int PySem.F.slot_int_le PySem.F.entry_int_le (PySem.F.args_int_le_2 _ _) (fun A E Q q => by unfold Builtin.«int.__le__»; exact intBinary_declines gy rfl q) fin
      · exact tryC_int PySem.F.slot_int_gt PySem.F.entry_int_gt (PySem.F.args_int_gt_2 _ _) (fun A E Q q => by unfold Builtin.«int.__gt__»; exact intBinary_declines gy rfl q) fin
      · exact tryC_int PySem.F.slot_int_ge PySem.F.entry_int_ge (PySem.F.args_int_ge_2 _ _) (fun A E Q q => by unfold Builtin.«int.__ge__»; exact intBinary_declines gy rfl q) fin
    | _ => cases z.1
  | _ => cases e
/-! ### the comparison -/
def En.rf (E : En) : Ty → Ty → Option Bool
  | .own c, .pl T => if (E.cl c).isSome = true ∧ T ∈ plainTys then some false else none
  | .pl T, .own c => if (E.cl c).isSome = true ∧ T ∈ plainTys then some false else none
  | .own c, .own c' => if c = c' then some false else if (E.cl c).isSome = true then (match E.cl c' with
    | some ci => some (decide (c ∈ ci.sup))
    | none => none) else none
  | _, _ => none
def orElseM (m : M (Option Dat)) (f : M (Option Dat)) : M Dat := bnd m fun o => match o with
  | some d => pur d
  | none => bnd f fun o => match o with
    | some d => pur d
    | none => fail
def orFail (o : Option (M (Option Dat))) : M (Option Dat) := match o with
  | some m => m
  | none => fail
def En.rCmp (E : En) (op : CmpOp) : Rule := fun ds => match ds with
  | [x, y] => (match x.typ, y.typ with
    | some tx, some ty => (match E.rf tx ty with
      | some true => (E.tryD (cmpInfo op).2.2 y x).map fun m => orElseM m (orFail (E.tryD (cmpInfo op).2.1 x y))
      | some false => (E.tryD (cmpInfo op).2.1 x y).map fun m => orElseM m (orFail (E.tryD (cmpInfo op).2.2 y x))
      | none => none)
    | _, _ => none)
  | _ => none
theorem typ_one {x : V} {u v : Value} {d : Dat} {T : Ty} {g : Gh} {op : CmpOp} (rv : RelV x u) (r : RepG X.K g x d) : oneThing? op u v = none := by
  cases x with
  | non => cases (show u = Value.none from rv); rfl
  | bl b => cases (show u = Value.bool b from rv); rfl
  | int j => obtain ⟨_, q⟩ := (show ∃ t, u = Value.int j t from rv); cases q; rfl
  | str j => obtain ⟨_, q⟩ := (show ∃ t, u = Value.str j t from rv); cases q; rfl
  | byt j => obtain ⟨_, q⟩ := (show ∃ t, u = Value.bytes j t from rv); cases q; rfl
  | flt j => obtain ⟨_, q⟩ := (show ∃ t, u = Value.float j t from rv); cases q; rfl
  | ref a => cases (show u = Value.ref a from rv); rfl
  | ty n => cases (show u = Value.type n from rv); rfl
theorem rf_ok (N : EnOk (md X) k E) {tx ty : Ty} {rf : Bool} (h : E.rf tx ty = some rf) : (if tx.val X.K = ty.val X.K then rf = false else PySem.W.subIn X.K (ty.val X.K) (tx.val X.K) = some rf) := by
  have some_of : ∀ {c : Str}, (E.cl c).isSome = true → ∃ ci, E.cl c = some ci := fun {c} z => by
    cases ec : E.cl c with
    | none => rw [ec] at z; cases z
    | some ci => exact ⟨ci, rfl⟩
  cases tx with
  | pl T =>
    cases ty with
    | pl T' => cases h
    | own c =>
      unfold En.rf at h
      dsimp only at h
      by_cases z : (E.cl c).isSome = true ∧ T ∈ plainTys
      · rw [if_pos z] at h; cases h
        obtain ⟨ci, e⟩ := some_of z.1
        rw [if_neg (fun q => Value.noConfusion q)]
        exact (N.cl c ci e).more.io T z.2
      · rw [if_neg z] at h; cases h
  | own c =>
    cases ty with
    | pl T =>
      unfold En.rf at h
      dsimp only at h
      by_cases z : (E.cl c).isSome = true ∧ T ∈ plainTys
      · rw [if_pos z] at h; cases h
        obtain ⟨ci, e⟩ := some_of z.1
        rw [if_neg (fun q => Value.noConfusion q)]
        exact (N.cl c ci e).more.os T z.2
      · rw [if_neg z] at h; cases h
    | own c' =>
      unfold En.rf at h
      dsimp only at h
      by_cases z : c = c'
      · rw [if_pos z] at h; cases h
        subst z
        rw [if_pos rfl]
      · rw [if_neg z] at h
        by_cases z1 : (E.cl c).isSome = true
        · rw [if_pos z1] at h
          cases ec' : E.cl c' with
          | none => rw [ec'] at h; cases h
          | some ci' =>
            rw [ec'] at h
            cases h
            obtain ⟨ci, ec⟩ := some_of z1
            rw [if_neg (show ¬ (Ty.val X.K (Ty.own c) = Ty.val X.K (Ty.own c')) from fun q => (N.cl c ci ec).more.ne c' ci' ec' z (Value.ref.inj q))]
            exact (N.cl c' ci' ec').more.sub c ci ec
        · rw [if_neg z1] at h; cases h
theorem rel_ty (N : EnOk (md X) k E) {t : Ent} {pins : List (Addr × Obj)} {sh : Shared} {σ : L2.St} {H : Hp} {g : Gh} {s : Sto} {x : V} {u : Value} {d : Dat} {T : Ty} (I : Inv X pins σ H sh) (L : LRel X.K t g s σ H) (rv : RelV x u) (r : RepG X.K g x d) (h : d.typ = some T) : PySem.W.Looks (model X.prog X.w) sh.heap (typeOf u) (T.val X.K) := by
  by_cases z : ∃ c, T = .own c
  · obtain ⟨c, rfl⟩ := z
    cases r with
    | @ins a dx c fs ds h1 kk r1 =>
      cases h; cases (show u = Value.ref a from rv)
      obtain ⟨ox, od, J⟩ := ins_at I L h1
      exact J.type
    | _ => cases h
  · obtain ⟨Ph, ph, kx⟩ := kit_of N I L rv r h (fun c q => (z ⟨c, q⟩).elim)
    exact kx.ty _ _ I.kIn ph
theorem ok_rCmp (N : EnOk (md X) k E) (hr : Room (k + 1) X.A) {op : CmpOp} (hop : ∀ a b, compareOp op a b = richCompare op a b) : ROk X (f2 (compareOp op)) (E.rCmp op) := fun t W tk pins sh σ H g s xs us ds m Q e I rv L rp q => by
  match xs, us, ds, rv, rp, e with
  | [x, y], [u, v], [dx, dy], .cons r1 (.cons r2 .nil), .cons p1 (.cons p2 .nil), e =>
    unfold En.rCmp at e
    dsimp only at e
    cases e1 : dx.typ with
    | none => rw [e1] at e; cases e
    | some tx =>
      cases e2 : dy.typ with
      | none => rw [e1, e2] at e; cases e
      | some ty =>
        rw [e1, e2] at e
        dsimp only at e
        cases e3 : E.rf tx ty with
        | none => rw [e3] at e; cases e
        | some rf =>
          rw [e3] at e
          show wpAny _ _ (compareOp op u v) _ _ _
          rw [hop]
          refine rich_of hr.units0 (typ_one (T := tx) r1 p1) I.kIn (rel_ty N I L r1 p1 e1) (rel_ty N I L r2 p2 e2) (rf_ok N e3) ?_
          have second : ∀ {name : Str} {a b : V} {ua ub : Value} {da db : Dat} {g1 : Gh} {s1 : Sto} {H1 : Hp} {sh1 : Shared}, Inv X pins σ H1 sh1 → RelV a ua → RelV b ub → LRel X.K t g1 s1 σ H1 → RepG X.K g1 a da → RepG X.K g1 b db → atE X.K t W g1 s1 σ H1 (bnd (orFail (E.tryD name da db)) (fun o => match o with | some d => pur d | none => fail) s1) Q →
              wpAny (model X.prog X.w) X.A (tryCompare ua name ub) (fun r s' => ∃ v, r = some v ∧ EP X pins σ Q v s') X.xe sh1 := fun {name a b ua ub da db g1 s1 H1 sh1} I1 ra rb L1 pa pb q1 => by
            cases et : E.tryD name da db with
            | none => rw [et] at q1; exact q1.elim
            | some m2 =>
              rw [et] at q1
              refine wpAny_mono (try_ok N hr name t W tk pins sh1 σ H1 g1 s1 a b ua ub da db m2 (fun z H2 => ∃ v, z = some v ∧ Q v H2) et I1 ra rb L1 pa pb (at_seq (m := m2) q1 fun d g2 s2 z H2 ek L2 r q2 => ?_)) (fun o s' z => ?_) fun _ _ e => e
              · cases d with
                | none => exact q2.elim
                | some d =>
                  cases z with
                  | none => exact r.elim
                  | some v2 => exact ⟨v2, rfl, at_here (v := v2) L2 q2 r⟩
              · obtain ⟨z', H', I', rz, v2, rfl, hq⟩ := z
                cases o with
                | none => exact rz.elim
                | some w' => exact ⟨w', rfl, v2, H', I', rz, hq⟩
          have first_ : ∀ {name name' : Str} {a b : V} {ua ub : Value} {da db : Dat} {m1 : M (Option Dat)}, E.tryD name da db = some m1 → RelV a ua → RelV b ub → RepG X.K g a da → RepG X.K g b db → atE X.K t W g s σ H (orElseM m1 (orFail (E.tryD name' db da)) s) Q →
              wpAny (model X.prog X.w) X.A (tryCompare ua name ub) (fun r s' => match r with | some v => EP X pins σ Q v s' | none => wpAny (model X.prog X.w) X.A (tryCompare ub name' ua) (fun r s' => ∃ v, r = some v ∧ EP X pins σ Q v s') X.xe s') X.xe sh := fun {name name' a b ua ub da db m1} et ra rb pa pb q1 => by
            refine wpAny_mono (try_ok N hr name t W tk pins sh σ H g s a b ua ub da db m1 (fun z H2 => match z with | some v => Q v H2 | none => ∃ g2 s2, EK [] g s.cs H g2 s2.cs H2 ∧ LRel X.K t g2 s2 σ H2 ∧ atE X.K t W g2 s2 σ H2 (bnd (orFail (E.tryD name' db da)) (fun o => match o with | some d => pur d | none => fail) s2) Q) et I ra rb L pa pb (at_seq (m := m1) q1 fun d g2 s2 z H2 ek L2 r q2 => ?_)) (fun o s' z => ?_) fun _ _ e => e
            · cases d with
              | none =>
                cases z with
                | none => exact ⟨g2, s2, ek, L2, q2⟩
                | some v2 => exact r.elim
              | some d =>
                cases z with
                | none => exact r.elim
                | some v2 => exact at_here (v := v2) L2 q2 r
            · obtain ⟨z', H', I', rz, hq⟩ := z
              cases o with
              | none =>
                cases z' with
                | some v2 => exact rz.elim
                | none =>
                  obtain ⟨g2, s2, ek, L2, q2⟩ := hq
                  exact second I' rb ra L2 (ek.le.rep pb) (ek.le.rep pa) q2
              | some w' =>
                cases z' with
                | none => exact rz.elim
                | some v2 => exact ⟨v2, H', I', rz, hq⟩
          cases rf with
          | true =>
            rw [if_pos rfl]
            obtain ⟨m1, e4, e5⟩ := Option.map_eq_some_iff.mp e
            subst e5
            exact first_ e4 r2 r1 p2 p1 q
          | false =>
            rw [if_neg (by decide)]
            obtain ⟨m1, e4, e5⟩ := Option.map_eq_some_iff.mp e
            subst e5
            exact first_ e4 r1 r2 p1 p2 q
  | [], _, _, .nil, .nil, e => cases e
  | [_], _, _, .cons _ .nil, .cons _ .nil, e => cases e
  | _ :: _ :: _ :: _, _, _, .cons _ (.cons _ (.cons _ _)), .cons _ (.cons _ (.cons _ _)), e => cases e
end
end Zw

namespace Zw
open PySem L2 PyProof.Rows PySem.Spec ClX

/-! ### containers as they stand now: frozen ones, a frame's own, shared cells -/
def isCont : Dat → Bool
  | .lst _ => true
  | .dic _ => true
  | _ => false
def Top (K : PySem.W.Frag) (g : Gh) (H : Hp) (v : V) (d : Dat) : Prop := RepG K g v d ∨ (isCont d = true ∧ ∃ a, v = .ref a ∧ CellOk K g H a d)
inductive Tops (K : PySem.W.Frag) (g : Gh) (H : Hp) : List V → List Dat → Prop where
  | nil : Tops K g H [] []
  | cons {v : V} {d : Dat} {vs : List V} {ds : List Dat} (r : Top K g H v d) (t : Tops K g H vs ds) : Tops K g H (v :: vs) (d :: ds)
theorem Tops.of {K : PySem.W.Frag} {g : Gh} {H : Hp} : ∀ {vs : List V} {ds : List Dat}, RepsG K g vs ds → Tops K g H vs ds
  | _, _, .nil => .nil
  | _, _, .cons r t => .cons (.inl r) (Tops.of t)
/-- a rule whose containers may be a frame's own or cells -/
def ROkT (X : Cx) (f : List Value → Sem Value) (r : Rule) : Prop := ∀ (t : Ent) (W : WX), TakesE X t W → ∀ (pins : List (Addr × Obj)) (sh : Shared) (σ : L2.St) (H : Hp) (g : Gh) (s : Sto) (xs : List V) (us : List Value) (ds : List Dat) (m : M Dat) (Q : VK),
  r ds = some m → Inv X pins σ H sh → Vals xs us → LRel X.K t g s σ H → Tops X.K g H xs ds → atE X.K t W g s σ H (m s) Q → wpAny (model X.prog X.w) X.A (f us) (EP X pins σ Q) X.xe sh
/-- a shared cell's content -/
def vwD (s : Sto) : Dat → Option Dat
  | .loc n => (match s.cs[n]? with
    | some (some d) => if isCont d = true then some d else none
    | _ => none)
  | d => some d
def vw (x : Dat) : M Dat := fun s => match vwD s x with
  | some d => .ret d s
  | none => .stuck
def pkD (i : Nat) (s : Sto) : Option Dat := match s.env[i]? with
  | some (.val d) => vwD s d
  | some (.own d) => if isCont d = true then some d else none
  | _ => none
def pkSlot (i : Nat) : M Dat := fun s => match pkD i s with
  | some d => .ret d s
  | none => .stuck
section
variable {X : Cx} {E : En} {k : Nat} {t : Ent} {W : WX} {g : Gh} {s : Sto} {σ : L2.St} {H : Hp} {pins : List (Addr × Obj)} {sh : Shared}
theorem ROkT.ok {f : List Value → Sem Value} {r : Rule} (h : ROkT X f r) : ROk X f r := fun t W tk pins sh σ H g s xs us ds m Q e I rv L rp q => h t W tk pins sh σ H g s xs us ds m Q e I rv L (Tops.of rp) q
theorem ROkT.or {f : List Value → Sem Value} {r r' : Rule} (h : ROkT X f r) (h' : ROkT X f r') : ROkT X f (orR r r') := fun t W tk pins sh σ H g s xs us ds m Q e I rv L rp q => by
  unfold orR at e
  cases e1 : r ds with
  | some m1 => rw [e1] at e; cases e; exact h t W tk pins sh σ H g s xs us ds m Q e1 I rv L rp q
  | none => rw [e1] at e; exact h' t W tk pins sh σ H g s xs us ds m Q e I rv L rp q
theorem top_view {K : PySem.W.Frag} {v : V} {x d : Dat} (L : LRel K t g s σ H) (r : RepG K g v x) (e : vwD s x = some d) : Top K g H v d := by
  cases r with
  | @loc a n h =>
    unfold vwD at e
    dsimp only at e
    cases ec : s.cs[n]? with
    | none => rw [ec] at e; cases e
    | some o =>
      rw [ec] at e
      cases o with
      | none => cases e
      | some d' =>
        dsimp only at e
        by_cases z : isCont d' = true
        · rw [if_pos z] at e; cases e
          exact .inr ⟨z, a, rfl, (L.gr.cell n _ a ec h).2⟩
        · rw [if_neg z] at e; cases e
  | _ => cases e; left; first | exact .non | exact .bl _ | exact .int _ | exact .str _ | exact .ty _ | exact .tup (by assumption) (by assumption) | exact .lst (by assumption) (by assumption) | exact .dicK (by assumption) (by assumption) (by assumption) | exact .dicT (by assumption) (by assumption) (by assumption) | exact .ins (by assumption) (by assumption) (by assumption) | exact .exc0 (by assumption) | exact .exc1 (by assumption) (by assumption) (by assumption) (by assumption) | exact .cls _ | exact .fn _ | exact .tab
theorem top_pk {K : PySem.W.Frag} {i : Nat} {d : Dat} (L : LRel K t g s σ H) (e : pkD i s = some d) : ∃ v, σ[i]? = some (some v) ∧ Top K g H v d := by
  unfold pkD at e
  cases es : s.env[i]? with
  | none => rw [es] at e; cases e
  | some sl =>
    rw [es] at e
    cases sl with
    | val x =>
      obtain ⟨v, h1, h2⟩ := L.val i x es
      exact ⟨v, h1, top_view L h2 e⟩
    | own x =>
      dsimp only at e
      by_cases z : isCont x = true
      · rw [if_pos z] at e; cases e
        obtain ⟨a, h1, h2, _⟩ := L.own i _ es
        exact ⟨.ref a, h1, .inr ⟨z, a, rfl, h2⟩⟩
      · rw [if_neg z] at e; cases e
    | unset => cases e
    | slf _ => cases e
    | lam _ => cases e
/-- an expression that is looked at, not held -/
structure GP (X : Cx) (e : Expr) (m : M Dat) : Prop where
  run : ∀ t W, TakesE X t W → ∀ pins sh σ H g s Q, Inv X pins σ H sh → LRel X.K t g s σ H → (match m s with
    | .ret d s' => ∀ g' v H', EK [] g s.cs H g' s'.cs H' → LRel X.K t g' s' σ H' → Top X.K g' H' v d → Q v H'
    | .exc x s' => ∀ g' H' cls dd, EK [] g s.cs H g' s'.cs H' → LRel X.K t g' s' σ H' → XRep X.K g' cls dd x → W cls dd σ H'
    | .stuck => False) → wpAny (model X.prog X.w) X.A (eval e X.env) (EP X pins σ Q) X.xe sh
theorem GP.seq {γ δ : Type} {e : Expr} {m : M Dat} (h : GP X e m) (tk : TakesE X t W) {R' : Gh → δ → γ → Prop} {f : Dat → M γ} {Q : δ → Hp → Prop} {Post : Value → Shared → Prop} (I : Inv X pins σ H sh) (L : LRel X.K t g s σ H) (q : atG X.K t W R' g s σ H (bnd m f s) Q)
    (k : ∀ u sh1 v g1 s1 H1 d, Inv X pins σ H1 sh1 → RelV v u → EK [] g s.cs H g1 s1.cs H1 → LRel X.K t g1 s1 σ H1 → Top X.K g1 H1 v d → atG X.K t W R' g1 s1 σ H1 (f d s1) Q → Post u sh1) : wpAny (model X.prog X.w) X.A (eval e X.env) Post X.xe sh := by
  refine thn (h.run t W tk pins sh σ H g s (fun v H1 => ∃ d g1 s1, EK [] g s.cs H g1 s1.cs H1 ∧ LRel X.K t g1 s1 σ H1 ∧ Top X.K g1 H1 v d ∧ atG X.K t W R' g1 s1 σ H1 (f d s1) Q) I L ?_) fun u sh1 ⟨v, H1, I1, rv, d, g1, s1, ek, L1, r, q1⟩ => k u sh1 v g1 s1 H1 d I1 rv ek L1 r q1
  unfold bnd at q
  cases em : m s with
  | ret d s1 =>
    rw [em] at q
    intro g1 v H1 e1 L1 r1
    refine ⟨d, g1, s1, e1, L1, r1, ?_⟩
    have q : atG X.K t W R' g s σ H (f d s1) Q := q
    unfold atG at q ⊢
    cases e2 : f d s1 with
    | ret d2 s2 => rw [e2] at q; exact fun g2 v2 H2 z => q g2 v2 H2 (e1.trans z)
    | exc x s2 => rw [e2] at q; exact fun g2 H2 c dd z => q g2 H2 c dd (e1.trans z)
    | stuck => rw [e2] at q; exact q
  | exc x s1 => rw [em] at q; exact q
  | stuck => rw [em] at q; exact q
theorem gp_of {e : Expr} {m : M Dat} (h : GE X e m) : GP X e (bnd m vw) := ⟨fun t W tk pins sh σ H g s Q I L q => by
  refine (h.run t W tk).run pins sh σ H Q I ⟨g, s, L, ?_⟩
  unfold bnd at q
  cases em : m s with
  | ret x s1 =>
    rw [em] at q
    intro g1 v H1 e1 L1 r1
    have q : (match vw x s1 with
      | .ret d s' => ∀ g' v H', EK [] g s.cs H g' s'.cs H' → LRel X.K t g' s' σ H' → Top X.K g' H' v d → Q v H'
      | .exc x s' => ∀ g' H' cls dd, EK [] g s.cs H g' s'.cs H' → LRel X.K t g' s' σ H' → XRep X.K g' cls dd x → W cls dd σ H'
      | .stuck => False) := q
    unfold vw at q
    cases ev : vwD s1 x with
    | none => rw [ev] at q; exact q.elim
    | some d => rw [ev] at q; exact q g1 v H1 e1 L1 (top_view L1 r1 ev)
  | exc x s1 => rw [em] at q; exact q
  | stuck => rw [em] at q; exact q⟩
theorem gp_name {i : Nat} {x : Str} {pos : Pos} (hN : X.N[i]? = some x) (hv : Vis X.env.scope x) (hd : (x == ("__debug__" : Str)) = false) (hcd : (x == ("__classdict__" : Str)) = false) : GP X (.Name x pos) (pkSlot i) := ⟨fun t W tk pins sh σ H g s Q I L q => by
  unfold pkSlot at q
  cases ep : pkD i s with
  | none => rw [ep] at q; exact q.elim
  | some d =>
    rw [ep] at q
    obtain ⟨v, h1, h2⟩ := top_pk L ep
    exact (pe_var hN hv hd hcd).run pins sh σ H Q I ⟨v, h1, q g v H (EK.refl _ _ _) L h2⟩⟩
/-! ### containers by their parts -/
theorem Top.lst {K : PySem.W.Frag} {v : V} {ds : List Dat} (sb : Sub g.P H) (h : Top K g H v (.lst ds)) : ∃ a vs, v = .ref a ∧ SqL K H a vs ∧ RepsG K g vs ds := by
  rcases h with h | ⟨_, a, rfl, vs, h1, h2⟩
  · cases h with
    | @lst a vs _ h r => exact ⟨a, vs, rfl, sb.sqL h, r⟩
  · exact ⟨a, vs, rfl, .inl (.inl h1), h2⟩
theorem Top.tup {K : PySem.W.Frag} {v : V} {ds : List Dat} (sb : Sub g.P H) (h : Top K g H v (.tup ds)) : ∃ a vs, v = .ref a ∧ SqT K H a vs ∧ RepsG K g vs ds := by
  rcases h with h | ⟨z, _⟩
  · cases h with
    | @tup a vs _ h r => exact ⟨a, vs, rfl, sb.sqT h, r⟩
  · cases z
theorem Top.rep {K : PySem.W.Frag} {v : V} {d : Dat} (h : Top K g H v d) (n : isCont d = false) : RepG K g v d := by
  rcases h with h | ⟨z, _⟩
  · exact h
  · rw [n] at z; cases z
/-- a rule for one, two values, told without a new object -/
theorem ROkT.p1 {f : Value → Sem Value} {p : PRule1} (h : ∀ (t : Ent) (pins : List (Addr × Obj)) (sh : Shared) (σ : L2.St) (H : Hp) (g : Gh) (s : Sto) (x : V) (u : Value) (dx d : Dat) (Q : VK), p dx = some d → Inv X pins σ H sh → RelV x u → LRel X.K t g s σ H → Top X.K g H x dx → (∀ z, RepG X.K g z d → Q z H) → wpAny (model X.prog X.w) X.A (f u) (EP X pins σ Q) X.xe sh) : ROkT X (f1 f) (Zw.p1 p) := fun t W tk pins sh σ H g s xs us ds m Q e I rv L rp q => by
  match xs, us, ds, rv, rp, e with
  | [x], [u], [dx], .cons r1 .nil, .cons p1 .nil, e =>
    obtain ⟨d, e1, e2⟩ := Option.map_eq_some_iff.mp e
    subst e2
    exact h t pins sh σ H g s x u dx d Q e1 I r1 L p1 fun z rz => at_here L q rz
  | [], _, _, .nil, .nil, e => cases e
  | _ :: _ :: _, _, _, .cons _ (.cons _ _), .cons _ (.cons _ _), e => cases e
theorem ROkT.p2 {f : Value → Value → Sem Value} {p : PRule2} (h : ∀ (t : Ent) (pins : List (Addr × Obj)) (sh : Shared) (σ : L2.St) (H : Hp) (g : Gh) (s : Sto) (x y : V) (u v : Value) (dx dy d : Dat) (Q : VK), p dx dy = some d → Inv X pins σ H sh → RelV x u → RelV y v → LRel X.K t g s σ H → Top X.K g H x dx → Top X.K g H y dy → (∀ z, RepG X.K g z d → Q z H) → wpAny (model X.prog X.w) X.A (f u v) (EP X pins σ Q) X.xe sh) : ROkT X (f2 f) (Zw.p2 p) := fun t W tk pins sh σ H g s xs us ds m Q e I rv L rp q => by
  match xs, us, ds, rv, rp, e with
  | [x, y], [u, v], [dx, dy], .cons r1 (.cons r2 .nil), .cons p1 (.cons p2' .nil), e =>
    obtain ⟨d, e1, e2⟩ := Option.map_eq_some_iff.mp e
    subst e2
    exact h t pins sh σ H g s x y u v dx dy d Q e1 I r1 r2 L p1 p2' fun z rz => at_here L q rz
  | [], _, _, .nil, .nil, e => cases e
  | [_], _, _, .cons _ .nil, .cons _ .nil, e => cases e
  | _ :: _ :: _ :: _, _, _, .cons _ (.cons _ (.cons _ _)), .cons _ (.cons _ (.cons _ _)), e => cases e
/-- a new object -/
theorem at_new {d : Dat} {a : Addr} {o : HO} {Q : VK} (L : LRel X.K t g s σ H) (q : atE X.K t W g s σ H (.ret d s) Q) (n : H a = none) (r : ∀ g' : Gh, GLe g g' → g'.P a = some o → RepG X.K g' (.ref a) d) : Q (.ref a) (upd H a o) := by
  obtain ⟨L1, e1⟩ := L.laid (o := o) n
  exact q _ _ _ e1 L1 (r _ e1.le upd_same)
/-! ### len -/
def rLen : Rule := p1 fun x => match x with
  | .lst ds => some (.int ds.length)
  | .tup ds => some (.int ds.length)
  | .str z => if z.length ≤ sizeLine then some (.int z.length) else none
  | _ => none
theorem ok_len : ROkT X (f1 fun u => call (.builtin "len") [u]) rLen := ROkT.p1 fun t pins sh σ H g s x u dx d Q e I r1 L p q => by
  cases dx with
  | lst ds =>
    cases e
    obtain ⟨a, vs, rfl, h1, h2⟩ := p.lst L.gr.sub
    exact call_len_seq pins sh σ H [.ref a] [u] Q I (.cons r1 .nil) ⟨a, vs, rfl, .inl h1, by rw [h2.length]; exact q _ (.int _)⟩
  | tup ds =>
    cases e
    obtain ⟨a, vs, rfl, h1, h2⟩ := p.tup L.gr.sub
    exact call_len_seq pins sh σ H [.ref a] [u] Q I (.cons r1 .nil) ⟨a, vs, rfl, .inr h1, by rw [h2.length]; exact q _ (.int _)⟩
  | str z =>
    dsimp only at e
    by_cases hz : z.length ≤ sizeLine
    · rw [if_pos hz] at e; cases e
      cases p.rep rfl
      exact call_len_str pins sh σ H [.str z] [u] Q I (.cons r1 .nil) ⟨z, rfl, hz, q _ (.int _)⟩
    · rw [if_neg hz] at e; cases e
  | _ => cases e
/-! ### in, not in: flat items -/
def flatD : Dat → Bool
  | .non => true | .bl _ => true | .int _ => true | .str _ => true
  | _ => false
def eqD : Dat → Dat → Bool
  | .non, .non => true
  | .bl a, .bl b => a == b
  | .bl a, .int b => (if a then 1 else 0) == b
  | .int a, .bl b => a == (if b then 1 else 0)
  | .int a, .int b => a == b
  | .str a, .str b => a == b
  | _, _ => false
theorem flat_rep {K : PySem.W.Frag} {v : V} {d : Dat} (r : RepG K g v d) (h : flatD d = true) : flatV v = true := by
  cases r <;> first | rfl | cases h
theorem eqD_rep {K : PySem.W.Frag} {v w : V} {d e : Dat} (r : RepG K g v d) (r' : RepG K g w e) (h : flatD d = true) (h' : flatD e = true) : eqV v w = eqD d e := by
  cases r <;> first | (cases h; done) | (cases r' <;> first | rfl | cases h')
theorem flat_all {K : PySem.W.Frag} : ∀ {vs : List V} {ds : List Dat}, RepsG K g vs ds → ds.all flatD = true → vs.all flatV = true
  | _, _, .nil, _ => rfl
  | _, _, .cons r t, h => by
    rw [List.all_cons, Bool.and_eq_true] at h ⊢
    exact ⟨flat_rep r h.1, flat_all t h.2⟩
theorem inV_rep {K : PySem.W.Frag} {v : V} {d : Dat} (r : RepG K g v d) (hd : flatD d = true) : ∀ {vs : List V} {ds : List Dat}, RepsG K g vs ds → ds.all flatD = true → inV v vs = ds.any fun y => eqD y d
  | _, _, .nil, _ => rfl
  | _, _, .cons r' t, h => by
    rw [List.all_cons, Bool.and_eq_true] at h
    have ih := inV_rep r hd t h.2
    unfold inV at ih ⊢
    rw [List.any_cons, List.any_cons, eqD_rep r' r h.1 hd, ih]
def inD (neg : Bool) : PRule2 := fun x y => if flatD x = true then (match y with
    | .lst ds => if ds.all flatD = true then some (.bl (if neg then !(ds.any fun y => eqD y x) else ds.any fun y => eqD y x)) else none
    | .tup ds => if ds.all flatD = true then some (.bl (if neg then !(ds.any fun y => eqD y x) else ds.any fun y => eqD y x)) else none
    | _ => none) else none
theorem in_rule {op : CmpOp} {neg : Bool} (ho : OpR X (compareOp op) (rIn X.K neg)) : ROkT X (f2 (compareOp op)) (Zw.p2 (inD neg)) := ROkT.p2 fun t pins sh σ H g s x y u v dx dy d Q e I r1 r2 L p1 p2 q => by
  unfold inD at e
  by_cases z : flatD dx = true
  case neg => rw [if_neg z] at e; cases e
  rw [if_pos z] at e
  have p1 : RepG X.K g x dx := p1.rep (by cases dx <;> first | rfl | cases z)
  cases dy with
  | lst ds =>
    dsimp only at e
    by_cases z2 : ds.all flatD = true
    case neg => rw [if_neg z2] at e; cases e
    rw [if_pos z2] at e
    cases e
    obtain ⟨a, vs, rfl, h1, h2⟩ := p2.lst L.gr.sub
    exact ho pins sh σ H x (.ref a) u v Q I r1 r2 ⟨a, vs, rfl, .inl h1, flat_rep p1 z, flat_all h2 z2, by rw [inV_rep p1 z h2 z2]; exact q _ (.bl _)⟩
  | tup ds =>
    dsimp only at e
    by_cases z2 : ds.all flatD = true
    case neg => rw [if_neg z2] at e; cases e
    rw [if_pos z2] at e
    cases e
    obtain ⟨a, vs, rfl, h1, h2⟩ := p2.tup L.gr.sub
    exact ho pins sh σ H x (.ref a) u v Q I r1 r2 ⟨a, vs, rfl, .inr h1, flat_rep p1 z, flat_all h2 z2, by rw [inV_rep p1 z h2 z2]; exact q _ (.bl _)⟩
  | _ => cases e
def rInS (neg : Bool) : Rule := p2 fun x y => match x, y with
  | .str ⟨⟨[c]⟩⟩, .str z => some (.bl (if neg then !decide (c ∈ z.cps.toList) else decide (c ∈ z.cps.toList)))
  | _, _ => none
theorem ok_inS : ROkT X (f2 (compareOp .In)) (rInS false) := ROkT.p2 fun t pins sh σ H g s x y u v dx dy d Q e I r1 r2 L p1 p2 q => by
  split at e
  · rename_i c z
    cases e
    cases p1.rep rfl
    cases p2.rep rfl
    exact op_in_sign pins sh σ H _ _ u v Q I r1 r2 ⟨c, z, rfl, rfl, q _ (.bl _)⟩
  · cases e
theorem ok_notInS : ROkT X (f2 (compareOp .NotIn)) (rInS true) := ROkT.p2 fun t pins sh σ H g s x y u v dx dy d Q e I r1 r2 L p1 p2 q => by
  split at e
  · rename_i c z
    cases e
    cases p1.rep rfl
    cases p2.rep rfl
    exact op_notIn_sign pins sh σ H _ _ u v Q I r1 r2 ⟨c, z, rfl, rfl, q _ (.bl _)⟩
  · cases e
end
end Zw

namespace Zw
open PySem L2 PyProof.Rows PySem.Spec ClX
section
variable {X : Cx} {E : En} {k : Nat} {t : Ent} {W : WX} {g : Gh} {s : Sto} {σ : L2.St} {H : Hp} {pins : List (Addr × Obj)} {sh : Shared}
/-! ### a[b] -/
def ixD : PRule2 := fun x y => match x, y with
  | .lst ds, .int i => atI ds i
  | .tup ds, .int i => atI ds i
  | .str z, .int i => if z.length ≤ sizeLine then (atI z.cps.toList i).map fun c => .str ⟨#[c]⟩ else none
  | _, _ => none
theorem atI_rep {K : PySem.W.Frag} {vs : List V} {ds : List Dat} {i : Int} {d : Dat} (r : RepsG K g vs ds) (h : atI ds i = some d) : ∃ v, atI vs i = some v ∧ RepG K g v d := by
  unfold atI at h ⊢
  rw [r.length]
  obtain ⟨j, h1, h2⟩ := Option.bind_eq_some_iff.mp h
  obtain ⟨v, h3, h4⟩ := r.get h2
  exact ⟨v, by rw [h1]; exact h3, h4⟩
def IxOk (X : Cx) (r : Rule) : Prop := ∀ (value slice : Expr) (t : Ent) (W : WX), TakesE X t W → ∀ (pins : List (Addr × Obj)) (sh : Shared) (σ : L2.St) (H : Hp) (g : Gh) (s : Sto) (x y : V) (u v : Value) (dx dy : Dat) (m : M Dat) (Q : VK),
  r [dx, dy] = some m → Inv X pins σ H sh → RelV x u → RelV y v → LRel X.K t g s σ H → Top X.K g H x dx → RepG X.K g y dy → atE X.K t W g s σ H (m s) Q → (∀ b, subscripted slice b u v = if b = true then runValue (.builtin "lifetime.subscript" ⟨[u, v], []⟩) else operate [u, v] (getItem u v)) → wpAny (model X.prog X.w) X.A (subscriptTail value slice u v) (EP X pins σ Q) X.xe sh
theorem IxOk.or {r r' : Rule} (h : IxOk X r) (h' : IxOk X r') : IxOk X (orR r r') := fun value slice t W tk pins sh σ H g s x y u v dx dy m Q e I r1 r2 L p1 p2 q hs => by
  unfold orR at e
  cases e1 : r [dx, dy] with
  | some m1 => rw [e1] at e; cases e; exact h value slice t W tk pins sh σ H g s x y u v dx dy m Q e1 I r1 r2 L p1 p2 q hs
  | none => rw [e1] at e; exact h' value slice t W tk pins sh σ H g s x y u v dx dy m Q e I r1 r2 L p1 p2 q hs
def rIxD : Rule := p2 ixD
theorem ok_ix : IxOk X rIxD := fun value slice t W tk pins sh σ H g s x y u v dx dy m Q e I r1 r2 L p1 p2 q hs => by
  obtain ⟨d, e1, e2⟩ := Option.map_eq_some_iff.mp e
  subst e2
  have hs' := hs false
  rw [if_neg (by decide)] at hs'
  cases p2 with
  | int i =>
    cases dx with
    | lst ds =>
      obtain ⟨a, vs, rfl, h1, h2⟩ := p1.lst L.gr.sub
      obtain ⟨z, z1, z2⟩ := atI_rep h2 e1
      exact ix_list value slice pins sh σ H _ _ u v Q I r1 r2 ⟨a, vs, i, z, rfl, rfl, h1, z1, at_here L q z2⟩ hs'
    | tup ds =>
      obtain ⟨a, vs, rfl, h1, h2⟩ := p1.tup L.gr.sub
      obtain ⟨z, z1, z2⟩ := atI_rep h2 e1
      exact ix_tup value slice pins sh σ H _ _ u v Q I r1 r2 ⟨a, vs, i, z, rfl, rfl, h1, z1, at_here L q z2⟩ hs'
    | str z =>
      cases p1.rep rfl
      unfold ixD at e1
      dsimp only at e1
      by_cases hz : z.length ≤ sizeLine
      · rw [if_pos hz] at e1
        obtain ⟨c, c1, c2⟩ := Option.map_eq_some_iff.mp e1
        subst c2
        exact ix_str value slice pins sh σ H _ _ u v Q I r1 r2 ⟨z, i, c, rfl, rfl, hz, c1, at_here L q (.str _)⟩ hs'
      · rw [if_neg hz] at e1; cases e1
    | _ => cases e1
  | _ => cases dx <;> cases e1
def isSlice : Expr → Bool
  | .Slice .. => true
  | _ => false
theorem sub_plain {b : Expr} (h : isSlice b = false) (u v : Value) (p : Bool) : subscripted b p u v = if p = true then runValue (.builtin "lifetime.subscript" ⟨[u, v], []⟩) else operate [u, v] (getItem u v) := by
  cases b <;> first | (cases h; done) | (cases p <;> rfl)
theorem ge_ixE {a b : Expr} {pos : Pos} {ma mb : M Dat} {r : Rule} (hr : IxOk X r) (ha : GE X a ma) (hb : GE X b mb) (hs : isSlice b = false) : GE X (.Subscript a b pos) (bnd ma fun x => bnd mb fun y => bnd (vw x) fun d => runR r [d, y]) :=
  GE.of fun t W tk pins sh σ H g s Q I L q => Subscript_ (ha.seq tk I L q fun u sh1 v g1 s1 H1 d I1 rv e1 L1 r1 q1 => hb.seq tk I1 L1 q1 fun u2 sh2 v2 g2 s2 H2 d2 I2 rv2 e2 L2 r2 q2 => by
    unfold bnd vw at q2
    cases ev : vwD s2 d with
    | none => rw [ev] at q2; exact q2.elim
    | some d' =>
      rw [ev] at q2
      have q2 : atE X.K t W g2 s2 σ H2 (runR r [d', d2] s2) Q := q2
      unfold runR at q2
      cases em : r [d', d2] with
      | none => rw [em] at q2; exact q2.elim
      | some m => rw [em] at q2; exact hr a b t W tk pins sh2 σ H2 g2 s2 v v2 u u2 d' d2 m Q em I2 rv rv2 L2 (top_view L2 (e2.le.rep r1) ev) r2 q2 (sub_plain hs u u2))
theorem ge_ixN {i : Nat} {x : Str} {b : Expr} {p pos : Pos} {mb : M Dat} {r : Rule} (hN : X.N[i]? = some x) (hv : Vis X.env.scope x) (hd : (x == ("__debug__" : Str)) = false) (hcd : (x == ("__classdict__" : Str)) = false) (hr : IxOk X r) (hb : GE X b mb) (hs : isSlice b = false) : GE X (.Subscript (.Name x p) b pos) (bnd (pkSlot i) fun _ => bnd mb fun y => bnd (pkSlot i) fun d => runR r [d, y]) :=
  GE.of fun t W tk pins sh σ H g s Q I L q => Subscript_ (by
    unfold bnd pkSlot at q
    cases e0 : pkD i s with
    | none => rw [e0] at q; exact q.elim
    | some d0 =>
      rw [e0] at q
      obtain ⟨v, h1, h2⟩ := top_pk L e0
      refine thn ((pe_var hN hv hd hcd).run pins sh σ H (fun z H' => z = v ∧ H' = H) I ⟨v, h1, rfl, rfl⟩) fun u sh1 ⟨z, H', I1, rv, e1, e2⟩ => ?_
      subst e1 e2
      have q : atE X.K t W g s σ H' (bnd mb (fun y => bnd (pkSlot i) fun d => runR r [d, y]) s) Q := q
      refine hb.seq tk I1 L q fun u2 sh2 v2 g2 s2 H2 d2 I2 rv2 e2 L2 r2 q2 => ?_
      unfold bnd pkSlot at q2
      cases e3 : pkD i s2 with
      | none => rw [e3] at q2; exact q2.elim
      | some d' =>
        rw [e3] at q2
        obtain ⟨v', h3, h4⟩ := top_pk L2 e3
        rw [h1] at h3
        cases h3
        have q2 : atE X.K t W g2 s2 σ H2 (runR r [d', d2] s2) Q := q2
        unfold runR at q2
        cases em : r [d', d2] with
        | none => rw [em] at q2; exact q2.elim
        | some m => rw [em] at q2; exact hr (.Name x p) b t W tk pins sh2 σ H2 g2 s2 z v2 u u2 d' d2 m Q em I2 rv rv2 L2 h4 r2 q2 (sub_plain hs u u2))
/-! ### slices -/
def cutD {α : Type} (xs : List α) (lo hi : Option Int) : List α := (xs.drop (HT.sIx xs.length 0 lo)).take (HT.sIx xs.length xs.length hi - HT.sIx xs.length 0 lo)
theorem Reps.drop {K : PySem.W.Frag} {P : Hp} {io : List Addr} : ∀ {vs : List V} {ds : List Dat} (n : Nat), Reps K P io vs ds → Reps K P io (vs.drop n) (ds.drop n)
  | _, _, 0, r => r
  | _, _, _ + 1, .nil => .nil
  | _, _, n + 1, .cons _ t => Reps.drop n t
theorem Reps.take {K : PySem.W.Frag} {P : Hp} {io : List Addr} : ∀ {vs : List V} {ds : List Dat} (n : Nat), Reps K P io vs ds → Reps K P io (vs.take n) (ds.take n)
  | _, _, 0, _ => by simpa using Reps.nil
  | _, _, _ + 1, .nil => .nil
  | _, _, n + 1, .cons r t => .cons r (Reps.take n t)
theorem cut_rep {K : PySem.W.Frag} {vs : List V} {ds : List Dat} {lo hi : Option Int} (r : RepsG K g vs ds) : RepsG K g (cutV vs lo hi) (cutD ds lo hi) := by
  unfold cutV cutD
  rw [r.length]
  exact Reps.take _ (Reps.drop _ r)
def sliceM (x : Dat) (lo hi : Option Int) : M Dat := match x with
  | .lst ds => pur (.lst (cutD ds lo hi))
  | .tup ds => pur (.tup (cutD ds lo hi))
  | .str z => if z.length ≤ sizeLine then pur (.str (cutS z lo hi)) else fail
  | _ => fail
def partM (m : Option (M Dat)) : M (Option Int) := match m with
  | none => pur none
  | some m => bnd m fun d => match d with | .int i => pur (some i) | _ => fail
structure GO (X : Cx) (e : Option Expr) (m : M (Option Int)) : Prop where
  run : ∀ t W, TakesE X t W → PO X e (rdG X.K t W (fun _ (a b : Option Int) => a = b) m)
theorem go_none : GO X none (partM none) := ⟨fun t W tk => ⟨fun pins sh σ H Q I ⟨g, s, L, q⟩ => po_none.run pins sh σ H Q I (at_here (v := none) L q rfl)⟩⟩
theorem go_some {e : Expr} {m : M Dat} (h : GE X e m) : GO X (some e) (partM (some m)) := ⟨fun t W tk => ⟨fun pins sh σ H Q I ⟨g, s, L, q⟩ => (po_some (h.run t W tk)).run pins sh σ H Q I (rd_seq (R := RepG X.K) (Q1 := fun x H1 => ∃ i, x = V.int i ∧ Q (some i) H1) L q fun d g1 s1 v H1 ek L1 r q1 => by
  cases r with
  | int i => exact ⟨i, rfl, at_here (v := some i) L1 q1 rfl⟩
  | _ => exact q1.elim)⟩⟩
theorem GO.seq {γ δ : Type} {e : Option Expr} {m : M (Option Int)} (h : GO X e m) (tk : TakesE X t W) {R' : Gh → δ → γ → Prop} {f : Option Int → M γ} {Q : δ → Hp → Prop} {Post : Value → Shared → Prop} (I : Inv X pins σ H sh) (L : LRel X.K t g s σ H) (q : atG X.K t W R' g s σ H (bnd m f s) Q)
    (k : ∀ u sh1 o g1 s1 H1, Inv X pins σ H1 sh1 → IsPart u o → EK [] g s.cs H g1 s1.cs H1 → LRel X.K t g1 s1 σ H1 → atG X.K t W R' g1 s1 σ H1 (f o s1) Q → Post u sh1) : wpAny (model X.prog X.w) X.A (evalPart e X.env) Post X.xe sh :=
  thn ((h.run t W tk).run pins sh σ H (fun o H1 => ∃ g1 s1, EK [] g s.cs H g1 s1.cs H1 ∧ LRel X.K t g1 s1 σ H1 ∧ atG X.K t W R' g1 s1 σ H1 (f o s1) Q) I
    (rd_seq L q fun d g1 s1 v H1 ek L1 r q1 => by subst r; exact ⟨g1, s1, ek, L1, q1⟩)) fun u sh1 ⟨o, H1, I1, rv, g1, s1, ek, L1, q1⟩ => k u sh1 o g1 s1 H1 I1 rv ek L1 q1
theorem ge_slice {a : Expr} {lo hi : Option Expr} {p2 pos : Pos} {ma : M Dat} {ml mh : M (Option Int)} (ha : GE X a ma) (hl : GO X lo ml) (hh : GO X hi mh) : GE X (.Subscript a (.Slice lo hi none p2) pos) (bnd ma fun x => bnd ml fun l => bnd mh fun h => sliceM x l h) :=
  GE.of fun t W tk pins sh σ H g s Q I L q => Subscript_ (ha.seq tk I L q fun v s1 x g1 t1 H1 dx I1 rv e1 L1 r1 q1 =>
    wpAny_Slice (hl.seq tk I1 L1 q1 fun vl s2 l g2 t2 H2 I2 pl e2 L2 q2 => hh.seq tk I2 L2 q2 fun vu s3 u g3 t3 H3 I3 pu e3 L3 q3 => by
      rw [evalPart_none]
      refine wpAny_pure ?_
      have I4 : Inv X pins σ H3 { s3 with heap := s3.heap.push { cls := .type "slice", data := .fields #[vl, vu, .none] } } := I3.kept (t' := s3.toks) fun b ob q => Heap.get?_push_of_some _ q
      have fin : ∀ (r : V → Option Int → Option Int → Hp → VK → Prop), SlR X r → r x l u H3 Q → wpAny (model X.prog X.w) X.A (subscriptTail a (.Slice lo hi none p2) v (.ref s3.heap.objs.size)) (EP X pins σ Q) X.xe { s3 with heap := s3.heap.push { cls := .type "slice", data := .fields #[vl, vu, .none] } } := fun r hr hq => by
        obtain ⟨T, id, hT, ht, hg⟩ := hr pins { s3 with heap := s3.heap.push { cls := .type "slice", data := .fields #[vl, vu, .none] } } σ H3 x v vl vu l u s3.heap.objs.size Q I4 rv (Heap.IsSliceOf.new ..) pl pu hq
        exact tail_any (ops := [.ref s3.heap.objs.size, v]) ht hT hg (by with_unfolding_all rfl)
      have r3 : RepG X.K g3 x dx := e3.le.rep (e2.le.rep r1)
      cases r3 with
      | @lst p vs ds h r => exact fin _ sl_list ⟨p, vs, rfl, L3.gr.sub.sqL h, fun b hb => at_new L3 q3 hb fun g' l' hp => .lst (.inl (.inl hp)) (cut_rep (l'.reps r))⟩
      | @tup p vs ds h r => exact fin _ sl_tupA ⟨p, vs, rfl, L3.gr.sub.sqT h, fun z => at_here L3 q3 (by
          have hl := r.length
          have ec : cutD ds l u = ds := by unfold cutD; rw [← hl, z.1, z.2]; simp [hl]
          rw [ec]; exact .tup h r), fun _ b hb => at_new L3 q3 hb fun g' l' hp => .tup (.inl (.inl hp)) (cut_rep (l'.reps r))⟩
      | str z =>
        unfold sliceM at q3
        dsimp only at q3
        by_cases hz : z.length ≤ sizeLine
        · rw [if_pos hz] at q3
          exact fin _ sl_str ⟨z, rfl, hz, at_here L3 q3 (.str _)⟩
        · rw [if_neg hz] at q3; exact q3.elim
      | _ => exact q3.elim))
/-! ### displays -/
def tupM (ma : M (List Dat)) : M Dat := bnd ma fun ds => if ds.length ≤ sizeLine then pur (.tup ds) else fail
def lstM (ma : M (List Dat)) : M Dat := bnd ma fun ds => if ds.length ≤ sizeLine then pur (.lst ds) else fail
theorem ge_tup {es : List Expr} {j : Nat} {pos : Pos} {ma : M (List Dat)} (ha : GA X es ma) : GE X (.Tuple es j pos) (tupM ma) := ⟨fun t W tk => PE.imp (pe_tup (ha.run t W tk)) fun σ H Q ⟨g, s, L, q⟩ =>
  rd_seq (R := RepsG X.K) (Q1 := fun xs H1 => xs.length ≤ sizeLine ∧ ∀ p, H1 p = none → Q (.ref p) (upd H1 p (.tup xs))) L q fun ds g1 s1 vs H1 ek L1 r q1 => by
    by_cases z : ds.length ≤ sizeLine
    · rw [if_pos z] at q1
      exact ⟨by rw [r.length]; exact z, fun p hp => at_new L1 q1 hp fun g' l' h => .tup (.inl (.inl h)) (l'.reps r)⟩
    · rw [if_neg z] at q1; exact q1.elim⟩
theorem ge_lst {es : List Expr} {pos : Pos} {ma : M (List Dat)} (ha : GA X es ma) : GE X (.List es pos) (lstM ma) := ⟨fun t W tk => PE.imp (pe_lst (ha.run t W tk)) fun σ H Q ⟨g, s, L, q⟩ =>
  rd_seq (R := RepsG X.K) (Q1 := fun xs H1 => xs.length ≤ sizeLine ∧ ∀ p, H1 p = none → Q (.ref p) (upd H1 p (.lst xs))) L q fun ds g1 s1 vs H1 ek L1 r q1 => by
    by_cases z : ds.length ≤ sizeLine
    · rw [if_pos z] at q1
      exact ⟨by rw [r.length]; exact z, fun p hp => at_new L1 q1 hp fun g' l' h => .lst (.inl (.inl h)) (l'.reps r)⟩
    · rw [if_neg z] at q1; exact q1.elim⟩
/-! ### text + text, list + list, tuple + tuple -/
def rAddS : Rule := p2 fun x y => match x, y with
  | .str a, .str b => if a.length + b.length ≤ sizeLine then some (.str (a ++ b)) else none
  | _, _ => none
theorem add_str {f : Value → Value → Sem Value} (ho : OpR X f (fun x y H Q => ∃ i j, x = .str i ∧ y = .str j ∧ i.length + j.length ≤ sizeLine ∧ Q (.str (i ++ j)) H)) : ROk X (f2 f) rAddS := ROk.p2 fun pins sh σ H g x y u v dx dy d Q e I r1 r2 sb p1 p2 q => by
  cases p1 with
  | str a =>
    cases p2 with
    | str b =>
      dsimp only at e
      by_cases z : a.length + b.length ≤ sizeLine
      · rw [if_pos z] at e; cases e
        exact ho pins sh σ H _ _ u v Q I r1 r2 ⟨a, b, rfl, rfl, z, q _ (.str _)⟩
      · rw [if_neg z] at e; cases e
    | _ => cases e
  | _ => cases e
theorem ok_addS : ROk X (f2 (binaryOp .Add)) rAddS := add_str op_add_str
theorem ok_iaddS : ROk X (f2 (inplaceOp .Add)) rAddS := add_str iop_add_str
def rCatD : Rule := fun ds => match ds with
  | [.lst a, .lst b] => if a.length + b.length ≤ sizeLine then some (pur (.lst (a ++ b))) else none
  | [.tup a, .tup b] => if a.length + b.length ≤ sizeLine then some (pur (.tup (a ++ b))) else none
  | _ => none
theorem op_catL : OpR X (binaryOp .Add) (fun x y H Q => ∃ l b xs zs, x = .ref l ∧ y = .ref b ∧ SqL X.K H l xs ∧ SqL X.K H b zs ∧ xs.length + zs.length ≤ sizeLine ∧ ∀ p, H p = none → Q (.ref p) (upd H p (.lst (xs ++ zs)))) := by
  intro pins s σ H x y v u Q I rx ry h
  obtain ⟨l, b, xs, zs, rfl, rfl, hH, hB, hz, q⟩ := h
  cases rx
  cases ry
  obtain ⟨its, r, ⟨⟨cls, dd, data, sl⟩, n, ho, hc, hdd, hd⟩, hl⟩ := I.list hH
  obtain ⟨its2, r2, ⟨⟨cls2, dd2, data2, sl2⟩, n2, ho2, hc2, hdd2, hd2⟩, hl2⟩ := I.list hB
  have hr := r.length
  have hr2 := r2.length
  simp only at hc hd hdd hc2 hd2 hdd2
  subst hc hd hdd hc2 hd2 hdd2
  have e : its.toArray ++ its2.toArray = (its ++ its2).toArray := by simp
  refine concat_meets ⟨_, ho, rfl⟩ ⟨_, ho2, rfl⟩ noFill_list_add seq_list_add PySem.F.slot_list_add PySem.F.entry_list_add (PySem.F.args_list_add_2 _ _) (list_addW l b its.toArray its2.toArray n n2 none none sl sl2 (by simp; omega)) ⟨ho, ho2, ?_⟩
  rw [e]
  exact ⟨.ref _, _, I.lnew (t' := s.toks) (r.append r2) (by rw [List.length_append]; omega), rfl, q _ I.fresh⟩
theorem ok_catD : ROkT X (f2 (binaryOp .Add)) rCatD := fun t W tk pins sh σ H g s xs us ds m Q e I rv L rp q => by
  match xs, us, ds, rv, rp, e with
  | [x, y], [u, v], [dx, dy], .cons r1 (.cons r2 .nil), .cons p1 (.cons p2 .nil), e =>
    unfold rCatD at e
    split at e
    · rename_i a b hh
      cases hh
      by_cases z : a.length + b.length ≤ sizeLine
      case neg => rw [if_neg z] at e; cases e
      rw [if_pos z] at e
      cases e
      obtain ⟨l, vs, rfl, h1, h2⟩ := p1.lst L.gr.sub
      obtain ⟨l', ws, rfl, h1', h2'⟩ := p2.lst L.gr.sub
      exact op_catL pins sh σ H _ _ u v Q I r1 r2 ⟨l, l', vs, ws, rfl, rfl, h1, h1', by rw [h2.length, h2'.length]; exact z, fun p hp => at_new L q hp fun g' l'' hp' => .lst (.inl (.inl hp')) (Reps.append (l''.reps h2) (l''.reps h2'))⟩
    · rename_i a b hh
      cases hh
      by_cases z : a.length + b.length ≤ sizeLine
      case neg => rw [if_neg z] at e; cases e
      rw [if_pos z] at e
      cases e
      cases p1.rep rfl with
      | @tup l vs _ h1 h2 =>
        cases p2.rep rfl with
        | @tup l' ws _ h1' h2' =>
          refine op_catA pins sh σ H _ _ u v Q I r1 r2 ⟨l, l', vs, ws, rfl, rfl, L.gr.sub.sqT h1, L.gr.sub.sqT h1', by rw [h2.length, h2'.length]; exact z, fun q0 => at_here L q ?_, fun _ q1 => at_here L q ?_, fun _ _ p hp => at_new L q hp fun g' l'' hp' => .tup (.inl (.inl hp')) (Reps.append (l''.reps h2) (l''.reps h2'))⟩
          · have := h2.length
            rw [q0] at this
            cases a with
            | nil => exact .tup h1' h2'
            | cons _ _ => simp at this
          · have := h2'.length
            rw [q1] at this
            cases b with
            | nil => rw [List.append_nil]; exact .tup h1 h2
            | cons _ _ => simp at this
    · cases e
  | [], _, _, .nil, .nil, e => cases e
  | [_], _, _, .cons _ .nil, .cons _ .nil, e => simp [rCatD] at e
  | _ :: _ :: _ :: _, _, _, .cons _ (.cons _ (.cons _ _)), .cons _ (.cons _ (.cons _ _)), e => simp [rCatD] at e
end
end Zw

namespace Zw
open PySem L2 PyProof.Rows PySem.Spec ClX
section
variable {prog : Program} {w : World} {A : Around} {Ex : Value → Shared → Prop} {s : Shared} {x : Value}
/-- bool(x) by x's truth -/
theorem bool_of {Q : Value → Shared → Prop} (h : wpAny (model prog w) A.in1.in1 (truthy x) (fun b s' => Q (.bool b) s') Ex s) : wpAny (model prog w) A (call (.type "bool") [x]) Q Ex s := by
  refine callType_codes (T := "bool") (Bi := Builtin.«object.__init__») (Q₁ := fun r s₁ => ∃ b, r = .bool b ∧ Q r s₁) PySem.F.called_bool (PySem.F.typeCall_bool_1 _) PySem.F.entry_object_init ?_ ?_
  · refine codeAny_of_tree ?_
    show wpAny _ A.in1.in1 (do checkBuiltinCall "bool.__new__" ⟨[.type "bool", x], []⟩; again (.builtin "bool.__new__" ⟨[.type "bool", x], []⟩)) _ _ s
    refine wpAny_bind (wpAny_of_eq (PySem.F.newCall_bool_1 _) (wpAny_pure ⟨plainId_quiet (by decide +kernel) _, codeAny_builtin PySem.F.entry_bool_new ?_⟩))
    rw [Around.under_plainId (by decide +kernel) _]
    unfold Builtin.«bool.__new__»
    refine wpAny_bind (m := isType (.type "bool")) (wpAny_of_eq (by rfl) ?_)
    simp only [Bool.not_true, Bool.false_eq_true, if_false]
    refine wpAny_bind (m := isSubtype (.type "bool") (.type "bool")) (wpAny_of_eq (a := true) (by rw [isSubtype_type]; kernel_rfl) ?_)
    simp only [Bool.not_true, Bool.false_eq_true, if_false]
    refine wpAny_bind (m := truthy x) (wpAny_mono h (fun b s' hb => wpAny_pure ⟨b, rfl, hb⟩) fun _ _ y => y)
  · rintro obj s₁ ⟨b, rfl, hq⟩
    exact ⟨PySem.typeIs_bool _ _, PySem.F.args_object_init_2 _ _, object_init_meets PySem.F.called_bool.init.lookup PySem.F.called_bool.made (by decide) prog w A.in1 _ s₁ ⟨PySem.typeIs_bool _ _, rfl, hq⟩⟩
end
section
variable {X : Cx} {E : En} {k : Nat} {t : Ent} {W : WX} {g : Gh} {s : Sto} {σ : L2.St} {H : Hp} {pins : List (Addr × Obj)} {sh : Shared}
/-- a def called deeper -/
theorem call_A {A' : Around} {fi : FnI} (F : FnIOk (md X) k fi) (hr : Room k A') (e0 : ∀ H sh, Inv X pins σ H sh → Env0 X.prog X.w X.K X.mg X.base A' X.stack sh H) (tk : TakesE X t W) {xs : List V} {us : List Value} {ds : List Dat} {Q : VK}
    (I : Inv X pins σ H sh) (rv : Vals xs us) (L : LRel X.K t g s σ H) (r : RepsG X.K g xs ds) (q : atE X.K t W g s σ H (fi.run ds s) Q) : wpAny (model X.prog X.w) A' (call (.ref (fi.adr X.K)) us) (EP X pins σ Q) X.xe sh := by
  unfold FnI.run at q
  by_cases h : fi.par - fi.dfl.length ≤ ds.length ∧ ds.length ≤ fi.par
  case neg => rw [if_neg h] at q; exact q.elim
  rw [if_pos h] at q
  obtain ⟨fd, ps, hl, Fk, dvs, dv, rd, rg, hb⟩ := (F.2 ds.length h.1 h.2).ex
  have hu : us.length = ds.length := by rw [← rv.length, r.length]
  generalize hdf : fi.dfl.drop (ds.length + fi.dfl.length - fi.par) = dfl at *
  have sp : spOf X.K ps.length fi.con (xs ++ dvs) H Q (WE W σ) := by
    refine ⟨by rw [List.length_append, r.length, (rg g).length, hl], g, s.cs, ds ++ dfl, L.gr, r.append (rg g), ?_⟩
    unfold callM at q
    cases e : fi.con (ds ++ dfl) s.cs with
    | ret d cs' => rw [e] at q; exact fun g' v H' e' gr r' => q g' v H' e'.toEK (L.call e' gr) r'
    | exc x cs' => rw [e] at q; exact fun g' H' cls dd e' gr r' => q g' H' cls dd e'.toEK (L.call e' gr) r'
    | stuck => rw [e] at q; exact q.elim
  refine wpAny_call (codeAny_mono (Fk.run A' X.stack sh H ⟨us, []⟩ (us ++ dv) (xs ++ dvs) Q (WE W σ) hr (e0 H sh I) (hb sh us I.kIn hu) (rv.append rd) sp) fun r s' hq => ?_)
  cases r with
  | error e => exact passAt tk.tk σ pins H sh e s' I hq
  | ok fl =>
    cases fl with
    | ret u => exact I.after hq
    | next => exact False.elim hq
    | brk => exact False.elim hq
    | cont => exact False.elim hq
/-- a def behind a special name of an instance, its result by shape -/
theorem own_then {A' : Around} (N : EnOk (md X) k E) (hr : Room k A') (e0 : ∀ H sh, Inv X pins σ H sh → Env0 X.prog X.w X.K X.mg X.base A' X.stack sh H) (tk : TakesE X t W) {q : Str} {fi : FnI} (hq : E.fn q = some fi) {γ δ : Type} {R' : Gh → δ → γ → Prop} {f : Dat → M γ} {xs : List V} {us : List Value} {ds : List Dat} {Q : δ → Hp → Prop} {Post : Value → Shared → Prop}
    (I : Inv X pins σ H sh) (rv : Vals xs us) (L : LRel X.K t g s σ H) (r : RepsG X.K g xs ds) (q' : atG X.K t W R' g s σ H (bnd (E.call q ds) f s) Q)
    (kk : ∀ u sh1 v g1 s1 H1 d, Inv X pins σ H1 sh1 → RelV v u → EK [] g s.cs H g1 s1.cs H1 → LRel X.K t g1 s1 σ H1 → RepG X.K g1 v d → atG X.K t W R' g1 s1 σ H1 (f d s1) Q → Post u sh1) : wpAny (model X.prog X.w) A' (call (.ref (fi.adr X.K)) us) Post X.xe sh := by
  have q1 : atG X.K t W R' g s σ H (bnd (fi.run ds) f s) Q := by
    have e : E.call q ds = fi.run ds := by unfold En.call; rw [hq]
    rw [← e]; exact q'
  exact thn (call_A (N.fn q fi hq) hr e0 tk I rv L r (Q := fun v H1 => ∃ d g1 s1, EK [] g s.cs H g1 s1.cs H1 ∧ LRel X.K t g1 s1 σ H1 ∧ RepG X.K g1 v d ∧ atG X.K t W R' g1 s1 σ H1 (f d s1) Q)
    (at_seq q1 fun d g1 s1 v H1 ek L1 r q1 => ⟨d, g1, s1, ek, L1, r, q1⟩)) fun u sh1 ⟨v, H1, I1, rv, d, g1, s1, ek, L1, r, q1⟩ => kk u sh1 v g1 s1 H1 d I1 rv ek L1 r q1
theorem e0_A : ∀ H sh, Inv X pins σ H sh → Env0 X.prog X.w X.K X.mg X.base X.A X.stack sh H := fun _ _ I => I.env0
theorem e0_1 : ∀ H sh, Inv X pins σ H sh → Env0 X.prog X.w X.K X.mg X.base X.A.in1 X.stack sh H := fun _ _ I => I.env0.in1
theorem e0_2 : ∀ H sh, Inv X pins σ H sh → Env0 X.prog X.w X.K X.mg X.base X.A.in1.in1 X.stack sh H := fun _ _ I => I.env0.in1.in1
/-! ### truth -/
def En.tru (E : En) : Dat → M Bool
  | .non => pur false
  | .bl b => pur b
  | .int i => pur (i != 0)
  | .str z => if z.length ≤ sizeLine then pur ((z.length : Int) != 0) else fail
  | .lst ds => pur (!ds.isEmpty)
  | .tup ds => pur (!ds.isEmpty)
  | .ins c fs => (match E.att c "__bool__" with
    | some (.meth q) => bnd (E.call q [.ins c fs]) fun r => match r with | .bl b => pur b | _ => fail
    | _ => fail)
  | _ => fail
theorem tru_A {A' : Around} (N : EnOk (md X) k E) (hr : Room k A') (e0 : ∀ H sh, Inv X pins σ H sh → Env0 X.prog X.w X.K X.mg X.base A' X.stack sh H) (tk : TakesE X t W) {x : V} {u : Value} {d : Dat} {Q : Bool → Hp → Prop} (I : Inv X pins σ H sh) (rv : RelV x u) (L : LRel X.K t g s σ H) (r : RepG X.K g x d) (q : atT X.K t W g s σ H (E.tru d s) Q) (hc : ∀ b, truthy (.bool b) = pure b) : wpAny (model X.prog X.w) A' (truthy u) (TP X pins σ Q) X.xe sh := by
  have hl := line63
  have hs : sizeLine = 16777216 := sizeLine_eq
  cases r with
  | non => cases rv; exact truthy_none ⟨H, I, at_here (v := false) L q rfl⟩
  | bl b => cases rv; exact wpAny_truthy_bool ⟨H, I, at_here (v := b) L q rfl⟩
  | int i => obtain ⟨t, rfl⟩ := rv; exact PySem.P.truthy_int ⟨H, I, at_here (v := (i != 0)) L q rfl⟩
  | str z =>
    obtain ⟨t, rfl⟩ := rv
    unfold En.tru at q
    dsimp only at q
    by_cases hz : z.length ≤ sizeLine
    · rw [if_pos hz] at q
      exact PySem.P.truthy_str (by omega) ⟨H, I.tok _, at_here (v := ((z.length : Int) != 0)) L q rfl⟩
    · rw [if_neg hz] at q; exact q.elim
  | @lst a vs ds h1 r1 =>
    cases rv
    obtain ⟨its, r, pl, hz⟩ := I.list (L.gr.sub.sqL h1)
    have hlen := r.length
    have e : (!its.toArray.isEmpty) = !ds.isEmpty := by
      rw [isEmpty_of r]; cases r1 <;> rfl
    exact wpAny_truthy_list pl.isList (by simp only [List.size_toArray]; omega) ⟨H, I.tok _, by rw [e]; exact at_here (v := !ds.isEmpty) L q rfl⟩
  | @tup a vs ds h1 r1 =>
    cases rv
    obtain ⟨its, r, pl, hz⟩ := I.tuple (L.gr.sub.sqT h1)
    have hlen := r.length
    have e : (!its.toArray.isEmpty) = !ds.isEmpty := by
      rw [isEmpty_of r]; cases r1 <;> rfl
    exact truthy_tuple pl (by simp only [List.size_toArray]; omega) ⟨H, I.tok _, by rw [e]; exact at_here (v := !ds.isEmpty) L q rfl⟩
  | @ins a dx c fs ds h1 kk r1 =>
    cases (show u = Value.ref a from rv)
    unfold En.tru at q
    dsimp only at q
    cases ea : E.att c "__bool__" with
    | none => rw [ea] at q; exact q.elim
    | some at_ =>
      rw [ea] at q
      cases at_ with
      | meth qn =>
        obtain ⟨ci, fi, z1, C, z3, z4, z5⟩ := att_meth N ea
        obtain ⟨ox, od, J⟩ := ins_at I L h1
        obtain ⟨mm, hF⟩ := I.fr
        refine PySem.W.truthy_K hF I.ok.mod.kin J z4.at_ z4.fn (own_then N hr e0 tk z3 I (xs := [.ref a]) (us := [.ref a]) (.cons rfl .nil) L (.cons (.ins h1 kk r1) .nil) q fun u2 sh2 v2 g2 s2 H2 d2 I2 rv2 e2 L2 r2 q2 => ?_)
        cases r2 with
        | bl b => cases rv2; exact ⟨H2, I2, at_here (v := b) L2 q2 rfl⟩
        | _ => exact q2.elim
      | _ => exact q.elim
  | _ => exact q.elim
theorem vtr (N : EnOk (md X) k E) (hr : Room k X.A) : VTr X E.tru := fun t W tk pins sh σ H g s x u d Q I rv L r q => tru_A N hr e0_A tk I rv L r q (fun b => rfl)
/-! ### unary operators, abs, bool, str of instances -/
def En.rUna (E : En) (f : Str) : Rule := fun ds => match ds with
  | [.ins c fs] => (match E.att c f with
    | some (.meth q) => some (E.call q [.ins c fs])
    | _ => none)
  | _ => none
theorem una_of {A' : Around} (N : EnOk (md X) k E) (hr : Room k A') (e0 : ∀ (pins : List (Addr × Obj)) (σ : L2.St) H sh, Inv X pins σ H sh → Env0 X.prog X.w X.K X.mg X.base A' X.stack sh H) {f : Str} {F : Value → Sem Value}
    (hF : ∀ (pins : List (Addr × Obj)) (σ : L2.St) (H : Hp) (sh : Shared) (Q : VK) (a C : Addr) (ox : Obj) (od : Option Obj) (fa : Addr), Inv X pins σ H sh → PySem.W.InstAt sh.heap a ox C od → Meth X.K C f fa → wpAny (model X.prog X.w) A' (call (.ref fa) [.ref a]) (EP X pins σ Q) X.xe sh → wpAny (model X.prog X.w) X.A (F (.ref a)) (EP X pins σ Q) X.xe sh) : ROk X (f1 F) (E.rUna f) := fun t W tk pins sh σ H g s xs us ds m Q e I rv L rp q => by
  match xs, us, ds, rv, rp, e with
  | [x], [u], [dx], .cons r1 .nil, .cons p1 .nil, e =>
    cases p1 with
    | @ins a dxa c fs ds h kk r =>
      cases (show u = Value.ref a from r1)
      unfold En.rUna at e
      dsimp only at e
      cases ea : E.att c f with
      | none => rw [ea] at e; cases e
      | some at_ =>
        rw [ea] at e
        cases at_ with
        | meth qn =>
          cases e
          obtain ⟨ci, fi, z1, C, z3, z4, z5⟩ := att_meth N ea
          obtain ⟨ox, od, J⟩ := ins_at I L h
          refine hF pins σ H sh Q a _ ox od _ I J z4 (call_A z5 hr (e0 pins σ) tk I (xs := [.ref a]) (us := [.ref a]) (ds := [.ins c ds]) (.cons rfl .nil) L (.cons (.ins h kk r) .nil) ?_)
          have e' : E.call qn [Dat.ins c ds] = fi.run [Dat.ins c ds] := by unfold En.call; rw [z3]
          rw [← e']; exact q
        | _ => cases e
    | _ => cases e
  | [], _, _, .nil, .nil, e => cases e
  | _ :: _ :: _, _, _, .cons _ (.cons _ _), .cons _ (.cons _ _), e => simp [En.rUna] at e
theorem ok_negO (N : EnOk (md X) k E) (hr : Room k X.A) : ROk X (f1 (unaryOp .USub)) (E.rUna "__neg__") := una_of N hr (fun _ _ _ _ I => I.env0) fun pins σ H sh Q a C ox od fa I J M h => by
  obtain ⟨mm, hF⟩ := I.fr
  exact PySem.W.ksp_neg hF I.ok.mod.kin J M.at_ M.fn h
theorem ok_invO (N : EnOk (md X) k E) (hr : Room k X.A) : ROk X (f1 (unaryOp .Invert)) (E.rUna "__invert__") := una_of N hr (fun _ _ _ _ I => I.env0) fun pins σ H sh Q a C ox od fa I J M h => by
  obtain ⟨mm, hF⟩ := I.fr
  exact PySem.W.ksp_inv hF I.ok.mod.kin J M.at_ M.fn h
theorem ok_absO (N : EnOk (md X) k E) (hr : Room (k + 1) X.A) : ROk X (f1 fun u => call (.builtin "abs") [u]) (E.rUna "__abs__") := una_of (A' := X.A.in1) N hr.in1 (fun _ _ _ _ I => I.env0.in1) fun pins σ H sh Q a C ox od fa I J M h => by
  refine Calls.call_function_entry PyProof.Rows.kind_abs PyProof.Rows.plain_abs PyProof.Rows.entry_abs (PyProof.Rows.args_abs _) ?_
  unfold Builtin.«abs»
  refine wpAny_bind (m := oneArg "abs" _) (wpAny_pure ?_)
  refine wpAny_bind (m := callSpecial? (.ref a) (Str.ofString "__abs__")) (PySem.W.special_fn I.kIn J M.at_ (beq_iff_eq.mp M.fn) (wpAny_mono h (fun r s' hr => ?_) fun _ _ y => y))
  exact wpAny_pure ⟨_, rfl, hr⟩
def rAbsI : Rule := p1 fun x => match x with | .int i => some (.int (if i < 0 then -i else i)) | _ => none
theorem ok_absI : ROk X (f1 fun u => call (.builtin "abs") [u]) rAbsI := ROk.p1 fun pins sh σ H g x u dx d Q e I r1 sb p q => by
  cases p with
  | int i => cases e; exact call_abs pins sh σ H [.int i] [u] Q I (.cons r1 .nil) ⟨i, rfl, q _ (.int _)⟩
  | _ => cases e
end
end Zw

namespace Zw
open PySem L2 PyProof.Rows PySem.Spec ClX
section
variable {X : Cx} {E : En} {k : Nat} {t : Ent} {W : WX} {g : Gh} {s : Sto} {σ : L2.St} {H : Hp} {pins : List (Addr × Obj)} {sh : Shared}
/-! ### bool(x), str(x), int(x) -/
def En.rBool (E : En) : Rule := fun ds => match ds with
  | [d] => some (bnd (E.tru d) fun b => pur (.bl b))
  | _ => none
theorem ok_bool (N : EnOk (md X) k E) (hr : Room (k + 2) X.A) : ROk X (f1 fun u => call (.type "bool") [u]) E.rBool := fun t W tk pins sh σ H g s xs us ds m Q e I rv L rp q => by
  match xs, us, ds, rv, rp, e with
  | [x], [u], [dx], .cons r1 .nil, .cons p1 .nil, e =>
    cases e
    have hr2 : Room k X.A.in1.in1 := (show Room (k + 1) X.A.in1 from Room.in1 hr).in1
    refine bool_of (wpAny_mono (tru_A N hr2 e0_2 tk I r1 L p1 (Q := fun b H1 => Q (.bl b) H1) (at_seq (R := fun _ a b => a = b) q fun d g1 s1 v H1 ek L1 r q1 => ?_) (fun b => rfl)) (fun b s' z => ?_) fun _ _ y => y)
    · subst r; exact at_here (v := V.bl v) L1 q1 (.bl v)
    · obtain ⟨H', I', hq⟩ := z
      exact ⟨.bl b, H', I', rfl, hq⟩
  | [], _, _, .nil, .nil, e => cases e
  | _ :: _ :: _, _, _, .cons _ (.cons _ _), .cons _ (.cons _ _), e => cases e
def strOk (i : Int) : Bool := decide (i.natAbs.log2 < 1920)
def rStrI : Rule := p1 fun x => match x with
  | .int i => if strOk i = true then some (.str (toString i : String)) else none
  | .str z => some (.str z)
  | _ => none
theorem ok_strI : ROk X (f1 fun u => call (.type "str") [u]) rStrI := ROk.p1 fun pins sh σ H g x u dx d Q e I r1 sb p q => by
  cases p with
  | int i =>
    dsimp only at e
    by_cases z : strOk i = true
    · rw [if_pos z] at e; cases e
      exact call_str_int pins sh σ H [.int i] [u] Q I (.cons r1 .nil) ⟨i, rfl, of_decide_eq_true z, q _ (.str _)⟩
    · rw [if_neg z] at e; cases e
  | str z => cases e; exact SkE.call_str_str pins sh σ H [.str z] [u] Q I (.cons r1 .nil) ⟨z, rfl, q _ (.str _)⟩
  | _ => cases e
/-- a text out of an own def -/
def strM (m : M Dat) : M Dat := bnd m fun r => match r with | .str z => pur (.str z) | _ => fail
def En.rStrO (E : En) : Rule := fun ds => match ds with
  | [.ins c fs] => (match E.att c "__str__" with
    | some (.meth q) => some (strM (E.call q [.ins c fs]))
    | _ => none)
  | _ => none
theorem str_own {A' : Around} (N : EnOk (md X) k E) (hr : Room k A') (e0 : ∀ (pins : List (Addr × Obj)) (σ : L2.St) H sh, Inv X pins σ H sh → Env0 X.prog X.w X.K X.mg X.base A' X.stack sh H) {F : Value → Sem Value} {f : Str}
    (hF : ∀ (pins : List (Addr × Obj)) (σ : L2.St) (H : Hp) (sh : Shared) (Q : Value → Shared → Prop) (a : Addr) (c : Str) (ci : ClsI) (ox : Obj) (od : Option Obj) (fa : Addr), Inv X pins σ H sh → E.cl c = some ci → ClsOk (md X) k E c ci → PySem.W.InstAt sh.heap a ox (He.ga X.K c) od → Meth X.K (He.ga X.K c) f fa → wpAny (model X.prog X.w) A' (call (.ref fa) [.ref a]) (PySem.W.StrBack Q) X.xe sh → wpAny (model X.prog X.w) X.A (F (.ref a)) Q X.xe sh)
    {a dx : Addr} {c q : Str} {fs : List (Str × V)} {ds : List (Str × Dat)} {Q : VK} (tk : TakesE X t W) (I : Inv X pins σ H sh) (L : LRel X.K t g s σ H) (p : g.P a = some (.ins (He.ga X.K c) dx fs)) (kk : ds.map (·.1) = fs.map (·.1)) (r : RepsG X.K g (fs.map (·.2)) (ds.map (·.2))) (ea : E.att c f = some (.meth q)) (q' : atE X.K t W g s σ H (strM (E.call q [.ins c ds]) s) Q) :
    wpAny (model X.prog X.w) X.A (F (.ref a)) (EP X pins σ Q) X.xe sh := by
  obtain ⟨ci, fi, z1, C, z3, z4, z5⟩ := att_meth N ea
  obtain ⟨ox, od, J⟩ := ins_at I L p
  refine hF pins σ H sh _ a c ci ox od _ I z1 C J z4 (own_then N hr (e0 pins σ) tk z3 I (xs := [.ref a]) (us := [.ref a]) (.cons rfl .nil) L (.cons (.ins p kk r) .nil) q' fun u2 sh2 v2 g2 s2 H2 d2 I2 rv2 e2 L2 r2 q2 => ?_)
  cases r2 with
  | str z => obtain ⟨tz, rfl⟩ := rv2; exact ⟨.str z, H2, I2, ⟨tz, rfl⟩, at_here L2 q2 (.str z)⟩
  | _ => exact q2.elim
theorem ok_strO (N : EnOk (md X) k E) (hr : Room (k + 2) X.A) : ROk X (f1 fun u => call (.type "str") [u]) E.rStrO := fun t W tk pins sh σ H g s xs us ds m Q e I rv L rp q => by
  have hr2 : Room k X.A.in1.in1 := (show Room (k + 1) X.A.in1 from Room.in1 hr).in1
  match xs, us, ds, rv, rp, e with
  | [x], [u], [dx], .cons r1 .nil, .cons p1 .nil, e =>
    cases p1 with
    | @ins a dxa c fs ds h kk r =>
      cases (show u = Value.ref a from r1)
      unfold En.rStrO at e
      dsimp only at e
      cases ea : E.att c "__str__" with
      | none => rw [ea] at e; cases e
      | some at_ =>
        rw [ea] at e
        cases at_ with
        | meth qn =>
          cases e
          exact str_own (F := fun u => call (.type "str") [u]) N hr2 (fun _ _ _ _ I => I.env0.in1.in1) (fun pins σ H sh Q a c ci ox od fa I hc C J M h => PySem.W.kso_call hr2.units0 I.kIn J M.at_ M.fn h) tk I L h kk r ea q
        | _ => cases e
    | _ => cases e
  | [], _, _, .nil, .nil, e => cases e
  | _ :: _ :: _, _, _, .cons _ (.cons _ _), .cons _ (.cons _ _), e => simp [En.rStrO] at e
def rIntC : Rule := p1 fun x => match x with
  | .int i => some (.int i)
  | .bl b => some (.int (if b then 1 else 0))
  | .str z => if z.length ≤ 640 then (PySem.intText? z).map .int else none
  | _ => none
theorem ok_int : ROk X (f1 fun u => call (.type "int") [u]) rIntC := ROk.p1 fun pins sh σ H g x u dx d Q e I r1 sb p q => by
  cases p with
  | int i => cases e; exact call_int1 pins sh σ H [.int i] [u] Q I (.cons r1 .nil) (.inl ⟨i, rfl, q _ (.int _)⟩)
  | bl b => cases e; exact call_int1 pins sh σ H [.bl b] [u] Q I (.cons r1 .nil) (.inr ⟨b, rfl, q _ (.int _)⟩)
  | str z =>
    dsimp only at e
    by_cases hz : z.length ≤ 640
    · rw [if_pos hz] at e
      obtain ⟨n, e1, e2⟩ := Option.map_eq_some_iff.mp e
      subst e2
      exact call_int_str pins sh σ H [.str z] [u] Q I (.cons r1 .nil) ⟨z, n, rfl, e1, hz, q _ (.int _)⟩
    · rw [if_neg hz] at e; cases e
  | _ => cases e
/-! ### list(x), tuple(x), all(x), any(x), sum(x) -/
def rListC : Rule := fun ds => match ds with
  | [.lst a] => some (pur (.lst a))
  | [.tup a] => some (pur (.lst a))
  | _ => none
theorem ok_list : ROkT X (f1 fun u => call (.type "list") [u]) rListC := fun t W tk pins sh σ H g s xs us ds m Q e I rv L rp q => by
  match xs, us, ds, rv, rp, e with
  | [x], [u], [dx], .cons r1 .nil, .cons p1 .nil, e =>
    cases dx with
    | lst a =>
      cases e
      obtain ⟨l, vs, rfl, h1, h2⟩ := p1.lst L.gr.sub
      exact call_list_of pins sh σ H [.ref l] [u] Q I (.cons r1 .nil) ⟨l, vs, rfl, .inl h1, fun p hp => at_new L q hp fun g' l' h => .lst (.inl (.inl h)) (l'.reps h2)⟩
    | tup a =>
      cases e
      obtain ⟨l, vs, rfl, h1, h2⟩ := p1.tup L.gr.sub
      exact call_list_of pins sh σ H [.ref l] [u] Q I (.cons r1 .nil) ⟨l, vs, rfl, .inr h1, fun p hp => at_new L q hp fun g' l' h => .lst (.inl (.inl h)) (l'.reps h2)⟩
    | _ => cases e
  | [], _, _, .nil, .nil, e => cases e
  | _ :: _ :: _, _, _, .cons _ (.cons _ _), .cons _ (.cons _ _), e => simp [rListC] at e
def rTupC : Rule := fun ds => match ds with
  | [.lst a] => some (pur (.tup a))
  | [.tup a] => some (pur (.tup a))
  | _ => none
theorem ok_tuple : ROkT X (f1 fun u => call (.type "tuple") [u]) rTupC := fun t W tk pins sh σ H g s xs us ds m Q e I rv L rp q => by
  match xs, us, ds, rv, rp, e with
  | [x], [u], [dx], .cons r1 .nil, .cons p1 .nil, e =>
    cases dx with
    | lst a =>
      cases e
      obtain ⟨l, vs, rfl, h1, h2⟩ := p1.lst L.gr.sub
      exact call_tuple_of pins sh σ H [.ref l] [u] Q I (.cons r1 .nil) ⟨l, vs, rfl, .inl ⟨h1, fun p hp => at_new L q hp fun g' l' h => .tup (.inl (.inl h)) (l'.reps h2)⟩⟩
    | tup a =>
      cases e
      cases p1.rep rfl with
      | @tup l vs _ h1 h2 => exact call_tuple_of pins sh σ H [.ref l] [u] Q I (.cons r1 .nil) ⟨l, vs, rfl, .inr ⟨L.gr.sub.sqT h1, at_here L q (.tup h1 h2)⟩⟩
    | _ => cases e
  | [], _, _, .nil, .nil, e => cases e
  | _ :: _ :: _, _, _, .cons _ (.cons _ _), .cons _ (.cons _ _), e => simp [rTupC] at e
def boolsD : List Dat → Option (List Bool)
  | [] => some []
  | .bl b :: r => (boolsD r).map (b :: ·)
  | _ => none
theorem boolsD_rep {K : PySem.W.Frag} : ∀ {vs : List V} {ds : List Dat} {bs : List Bool}, RepsG K g vs ds → boolsD ds = some bs → vs = bs.map V.bl
  | _, _, _, .nil, e => by cases e; rfl
  | _, _, _, .cons r t, e => by
    cases r with
    | bl b =>
      obtain ⟨bs', e1, e2⟩ := Option.map_eq_some_iff.mp (show (boolsD _).map (b :: ·) = some _ from e)
      subst e2
      rw [boolsD_rep t e1]; rfl
    | _ => cases e
def intsD : List Dat → Option (List Int)
  | [] => some []
  | .int b :: r => (intsD r).map (b :: ·)
  | _ => none
theorem intsD_rep {K : PySem.W.Frag} : ∀ {vs : List V} {ds : List Dat} {bs : List Int}, RepsG K g vs ds → intsD ds = some bs → vs = bs.map V.int
  | _, _, _, .nil, e => by cases e; rfl
  | _, _, _, .cons r t, e => by
    cases r with
    | int b =>
      obtain ⟨bs', e1, e2⟩ := Option.map_eq_some_iff.mp (show (intsD _).map (b :: ·) = some _ from e)
      subst e2
      rw [intsD_rep t e1]; rfl
    | _ => cases e
def onL {α : Type} (f : List Dat → Option (List α)) (h : List α → Dat) : Rule := p1 fun x => match x with
  | .lst ds => (f ds).map h
  | _ => none
def rAllC : Rule := onL boolsD fun bs => .bl (bs.all id)
def rAnyC : Rule := onL boolsD fun bs => .bl (bs.any id)
def rSumC : Rule := onL intsD fun bs => .int bs.sum
theorem ok_all (hc : X.calm = true) : ROkT X (f1 fun u => call (.builtin "all") [u]) rAllC := ROkT.p1 fun t pins sh σ H g s x u dx d Q e I r1 L p q => by
  cases dx with
  | lst ds =>
    obtain ⟨bs, e1, e2⟩ := Option.map_eq_some_iff.mp (show (boolsD ds).map _ = some d from e)
    subst e2
    obtain ⟨a, vs, rfl, h1, h2⟩ := p.lst L.gr.sub
    exact cr_all hc pins sh σ H [.ref a] [u] Q I (.cons r1 .nil) ⟨a, bs, rfl, by rw [← boolsD_rep h2 e1]; exact h1, q _ (.bl _)⟩
  | _ => cases e
theorem ok_any (hc : X.calm = true) : ROkT X (f1 fun u => call (.builtin "any") [u]) rAnyC := ROkT.p1 fun t pins sh σ H g s x u dx d Q e I r1 L p q => by
  cases dx with
  | lst ds =>
    obtain ⟨bs, e1, e2⟩ := Option.map_eq_some_iff.mp (show (boolsD ds).map _ = some d from e)
    subst e2
    obtain ⟨a, vs, rfl, h1, h2⟩ := p.lst L.gr.sub
    exact cr_any hc pins sh σ H [.ref a] [u] Q I (.cons r1 .nil) ⟨a, bs, rfl, by rw [← boolsD_rep h2 e1]; exact h1, q _ (.bl _)⟩
  | _ => cases e
theorem ok_sum (hc : X.calm = true) : ROkT X (f1 fun u => call (.builtin "sum") [u]) rSumC := ROkT.p1 fun t pins sh σ H g s x u dx d Q e I r1 L p q => by
  cases dx with
  | lst ds =>
    obtain ⟨bs, e1, e2⟩ := Option.map_eq_some_iff.mp (show (intsD ds).map _ = some d from e)
    subst e2
    obtain ⟨a, vs, rfl, h1, h2⟩ := p.lst L.gr.sub
    exact cr_sum hc pins sh σ H [.ref a] [u] Q I (.cons r1 .nil) ⟨a, bs, rfl, by rw [← intsD_rep h2 e1]; exact h1, q _ (.int _)⟩
  | _ => cases e
/-! ### calls of built-ins by name -/
theorem spl1 {e : Expr} {m : M Dat} {p : Pos} (h : GP X e m) (hs : noStar [e] = true) (tk : TakesE X t W) {R' : Gh → V → Dat → Prop} {f : Dat → M Dat} {Q : VK} {Post : List Value → Shared → Prop} (I : Inv X pins σ H sh) (L : LRel X.K t g s σ H) (q : atG X.K t W R' g s σ H (bnd m f s) Q)
    (kk : ∀ u sh1 v g1 s1 H1 d, Inv X pins σ H1 sh1 → RelV v u → LRel X.K t g1 s1 σ H1 → Top X.K g1 H1 v d → atG X.K t W R' g1 s1 σ H1 (f d s1) Q → Post [u] sh1) : wpAny (model X.prog X.w) X.A (spliced (backTo p (starEach [e] X.env))) Post X.xe sh := by
  obtain ⟨h1, _⟩ := star_cons (env := X.env) hs
  rw [h1]
  show wpAny _ _ (spliced ((false, eval e X.env) :: backTo p (starEach [] X.env))) _ _ sh
  refine Calls.spliced_cons (h.seq tk I L q fun u sh1 v g1 s1 H1 d I1 rv e1 L1 r1 q1 => ?_)
  exact Calls.spliced_nil (kk u sh1 v g1 s1 H1 d I1 rv L1 r1 q1)
theorem ge_blt1 {x : Str} {id : String} {a : Expr} {p pos : Pos} {m : M Dat} {r : Rule} (hg : Gl X x) (hm : X.mg x = none) (hv : bootBuiltins x = some (.builtin id)) (hn : x ≠ "__name__") (hdb : (x == ("__debug__" : Str)) = false) (hr : ROkT X (f1 fun u => call (.builtin id) [u]) r) (ha : GP X a m) (hs : noStar [a] = true) :
    GE X (.Call (.Name x p) [a] [] pos) (bnd m fun d => runR r [d]) :=
  GE.of fun t W tk pins sh σ H g s Q I L q => wpAny_Call_Name_kw (ld_blt I hg hm hv (by
    obtain ⟨h1, h2⟩ := star_cons (env := X.env) hs
    refine PyProof.Rows.callWith_builtin1 (spl1 ha hs tk I L q fun u sh1 v g1 s1 H1 d I1 rv L1 r1 q1 => ?_) h1 (star_any h2)
    unfold runR at q1
    cases em : r [d] with
    | none => rw [em] at q1; exact q1.elim
    | some mm => rw [em] at q1; exact hr t W tk pins sh1 σ H1 g1 s1 [v] [u] [d] mm Q em I1 (.cons rv .nil) L1 (.cons r1 .nil) q1) hn hdb)
theorem ge_blty1 {x : Str} {T : String} {a : Expr} {p pos : Pos} {m : M Dat} {r : Rule} (hg : Gl X x) (hm : X.mg x = none) (hv : bootBuiltins x = some (.type T)) (hn : x ≠ "__name__") (hdb : (x == ("__debug__" : Str)) = false) (hr : ROkT X (f1 fun u => call (.type T) [u]) r) (ha : GP X a m) (hs : noStar [a] = true) :
    GE X (.Call (.Name x p) [a] [] pos) (bnd m fun d => runR r [d]) :=
  GE.of fun t W tk pins sh σ H g s Q I L q => wpAny_Call_Name_kw (ld_blt I hg hm hv (by
    obtain ⟨h1, h2⟩ := star_cons (env := X.env) hs
    refine PyProof.Rows.callWith_type1 (spl1 ha hs tk I L q fun u sh1 v g1 s1 H1 d I1 rv L1 r1 q1 => ?_) h1 (star_any h2)
    unfold runR at q1
    cases em : r [d] with
    | none => rw [em] at q1; exact q1.elim
    | some mm => rw [em] at q1; exact hr t W tk pins sh1 σ H1 g1 s1 [v] [u] [d] mm Q em I1 (.cons rv .nil) L1 (.cons r1 .nil) q1) hn hdb)
/-- the same for values that are held -/
theorem ge_bltA {x : Str} {fv : Value} {es : List Expr} {p pos : Pos} {ma : M (List Dat)} {r : Rule} (hg : Gl X x) (hm : X.mg x = none) (hv : bootBuiltins x = some fv) (hn : x ≠ "__name__") (hdb : (x == ("__debug__" : Str)) = false) (ht : (∃ id, fv = .builtin id) ∨ ∃ T, fv = .type T) (hr : ROk X (fun us => call fv us) r) (ha : GA X es ma) (he : es ≠ []) (hs : noStar es = true) :
    GE X (.Call (.Name x p) es [] pos) (bnd ma (runR r)) :=
  GE.of fun t W tk pins sh σ H g s Q I L q => wpAny_Call_Name_kw (ld_blt I hg hm hv (by
    cases es with
    | nil => exact absurd rfl he
    | cons e es =>
      obtain ⟨h1, h2⟩ := star_cons (env := X.env) hs
      rcases ht with ⟨id, rfl⟩ | ⟨T, rfl⟩
      · exact PyProof.Rows.callWith_builtin1 (ha.seq tk pos I L q fun us sh1 vs g1 s1 H1 ds I1 rv e1 L1 r1 q1 => hr.run t W tk pins sh1 σ H1 g1 s1 vs us ds Q I1 rv L1 r1 q1) h1 (star_any h2)
      · exact PyProof.Rows.callWith_type1 (ha.seq tk pos I L q fun us sh1 vs g1 s1 H1 ds I1 rv e1 L1 r1 q1 => hr.run t W tk pins sh1 σ H1 g1 s1 vs us ds Q I1 rv L1 r1 q1) h1 (star_any h2)) hn hdb)
/-- a name of the module as a value -/
theorem ge_glob {x : Str} {v : V} {u : Value} {d : Dat} {pos : Pos} (hg : Gl X x) (hm : X.mg x = some u) (r : RelV v u) (hr : ∀ g, RepG X.K g v d) (hd : (x == ("__debug__" : Str)) = false) : GE X (.Name x pos) (pur d) := ge_lit (pe_glob hg hm r hd) hr
theorem ge_bltn {x : Str} {T : String} {pos : Pos} (hg : Gl X x) (hm : X.mg x = none) (hv : bootBuiltins x = some (.type T)) (hn : x ≠ "__name__") (hd : (x == ("__debug__" : Str)) = false) : GE X (.Name x pos) (pur (.ty T)) := ge_lit (pe_bltn hg hm hv (v := .ty T) rfl hn hd) fun g => .ty T
end
end Zw

namespace Zw
open PySem L2 PyProof.Rows PySem.Spec ClX

/-! ### list comprehensions -/
def wipeE (env : List Slot) : List Nat → List Slot
  | [] => env
  | v :: vs => (wipeE env vs).set v .unset
def plainAt (env : List Slot) (vs : List Nat) : Bool := vs.all fun v => match env[v]? with
  | some .unset => true
  | some (.val _) => true
  | _ => false
def restE (env env' : List Slot) : List Nat → List Slot
  | [] => env'
  | v :: vs => (restE env env' vs).set v (env.getD v .unset)
def lcLoop (vs : List Nat) (g : Dat → MS) (tt : M Bool) (te : M Dat) : List Dat → List Dat → Sto → Out (List Dat)
  | [], acc, s => .ret acc s
  | d :: ds, acc, s => (match g d s with
    | .nx s1 => (match tt s1 with
      | .ret false s2 => lcLoop vs g tt te ds acc ⟨wipeE s2.env vs, s2.cs⟩
      | .ret true s2 => (match te s2 with
        | .ret y s3 => lcLoop vs g tt te ds (acc ++ [y]) ⟨wipeE s3.env vs, s3.cs⟩
        | _ => .stuck)
      | _ => .stuck)
    | _ => .stuck)
def lcM (vs : List Nat) (mi : M (List Dat)) (g : Dat → MS) (tt : M Bool) (te : M Dat) : M Dat := bnd mi fun ds => fun s =>
  if plainAt s.env vs = true ∧ ds.length ≤ sizeLine then (match lcLoop vs g tt te ds [] ⟨wipeE s.env vs, s.cs⟩ with
    | .ret acc s' => .ret (.lst acc) ⟨restE s.env s'.env vs, s'.cs⟩
    | _ => .stuck) else .stuck
section
variable {K : PySem.W.Frag} {t : Ent} {g : Gh} {s : Sto} {σ : L2.St} {H : Hp}
theorem wipeE_length (env : List Slot) : ∀ vs : List Nat, (wipeE env vs).length = env.length
  | [] => rfl
  | v :: vs => by unfold wipeE; rw [List.length_set, wipeE_length env vs]
theorem wipeE_in {env : List Slot} {i : Nat} : ∀ {vs : List Nat}, i ∈ vs → ∀ x, (wipeE env vs)[i]? = some x → x = .unset
  | v :: vs, h, x, e => by
    unfold wipeE at e
    by_cases q : i = v
    · subst q
      rcases set_at e with ⟨_, z⟩ | ⟨n, _⟩
      · exact z
      · exact absurd rfl n
    · rw [List.getElem?_set_ne (Ne.symm q)] at e
      exact wipeE_in ((List.mem_cons.mp h).resolve_left q) x e
theorem wipeE_out {env : List Slot} {i : Nat} : ∀ {vs : List Nat}, i ∉ vs → (wipeE env vs)[i]? = env[i]?
  | [], _ => rfl
  | v :: vs, h => by
    unfold wipeE
    rw [List.getElem?_set_ne (fun z => h (List.mem_cons.mpr (.inl z.symm)))]
    exact wipeE_out fun z => h (List.mem_cons_of_mem _ z)
theorem wipe_out {σ : L2.St} {i : Nat} : ∀ {vs : List Nat}, i ∉ vs → (wipe σ vs)[i]? = σ[i]?
  | [], _ => rfl
  | v :: vs, h => by
    unfold wipe
    rw [List.getElem?_set_ne (fun z => h (List.mem_cons.mpr (.inl z.symm)))]
    exact wipe_out fun z => h (List.mem_cons_of_mem _ z)
theorem restE_length (env env' : List Slot) : ∀ vs : List Nat, (restE env env' vs).length = env'.length
  | [] => rfl
  | v :: vs => by unfold restE; rw [List.length_set, restE_length env env' vs]
theorem restE_in {env env' : List Slot} {i : Nat} (hi : i < env'.length) : ∀ {vs : List Nat}, i ∈ vs → (restE env env' vs)[i]? = some (env.getD i .unset)
  | v :: vs, h => by
    unfold restE
    by_cases q : v = i
    · subst q
      rw [List.getElem?_set_self (by rw [restE_length]; exact hi)]
    · rw [List.getElem?_set_ne q]
      exact restE_in hi ((List.mem_cons.mp h).resolve_left (Ne.symm q))
theorem restE_out {env env' : List Slot} {i : Nat} : ∀ {vs : List Nat}, i ∉ vs → (restE env env' vs)[i]? = env'[i]?
  | [], _ => rfl
  | v :: vs, h => by
    unfold restE
    rw [List.getElem?_set_ne (fun z => h (List.mem_cons.mpr (.inl z.symm)))]
    exact restE_out fun z => h (List.mem_cons_of_mem _ z)
/-- the slots of a block's own names forgotten -/
theorem LRel.wipe (L : LRel K t g s σ H) (vs : List Nat) : LRel K t g ⟨wipeE s.env vs, s.cs⟩ (wipe σ vs) H := by
  have out : ∀ {i : Nat} {x : Slot}, (wipeE s.env vs)[i]? = some x → x ≠ .unset → s.env[i]? = some x ∧ (L2.wipe σ vs)[i]? = σ[i]? := fun {i x} e n => by
    have hi : i ∉ vs := fun z => n (wipeE_in z x e)
    rw [wipeE_out hi] at e
    exact ⟨e, wipe_out hi⟩
  refine ⟨L.xin, L.gr, L.ex, by rw [wipeE_length, wipe_length]; exact L.len, fun i d e => ?_, fun i d e => ?_, fun i d e => ?_, fun i j a d e z1 z2 z3 z4 => ?_, fun i j d e z1 z2 => ?_, fun i c e => ?_⟩
  · obtain ⟨h1, h2⟩ := out e (fun z => by cases z); rw [h2]; exact L.val i d h1
  · obtain ⟨h1, h2⟩ := out e (fun z => by cases z); rw [h2]; exact L.own i d h1
  · obtain ⟨h1, h2⟩ := out e (fun z => by cases z); rw [h2]; exact L.slf i d h1
  · obtain ⟨h1, h2⟩ := out z1 (fun z => by cases z)
    obtain ⟨h3, h4⟩ := out z2 (fun z => by cases z)
    rw [h2] at z3; rw [h4] at z4
    exact L.dst i j a d e h1 h3 z3 z4
  · obtain ⟨h1, h2⟩ := out z1 (fun z => by cases z)
    obtain ⟨h3, h4⟩ := out z2 (fun z => by cases z)
    exact L.one i j d e h1 h3
  · obtain ⟨h1, h2⟩ := out e (fun z => by cases z); rw [h2]; exact L.lam i c h1
/-- an address that nobody here holds changes -/
theorem LRel.poke {D : Addr} {o : HO} (L : LRel K t g s σ H) (hP : g.P D = none) (hi : ¬ D ∈ g.io) (ht : t.H D = none) (ho : ∀ (i : Nat) (d : Dat), s.env[i]? = some (.own d) → σ[i]? ≠ some (some (.ref D))) : LRel K t g s σ (upd H D o) := by
  have ne : ∀ {a : Addr} {u : HO}, a ≠ D → H a = some u → (upd H D o) a = some u := fun n e => by rw [upd_ne n]; exact e
  have cne : ∀ {a : Addr} {d : Dat}, a ≠ D → CellOk K g H a d → CellOk K g (upd H D o) a d := fun n c => c.mono (GLe.refl _) fun u e => ne n e
  refine ⟨L.xin, ⟨fun a u e => ?_, L.gr.len, L.gr.nd, fun a z => ?_, fun n d a e1 e2 => ?_⟩, ⟨⟨L.ex.le, fun a u e n nx => ?_, fun a u e => ?_, L.ex.new, L.ex.live⟩, L.ex.pure⟩, L.len, L.val, fun i d e => ?_, fun i d e => ?_, L.dst, L.one, L.lam⟩
  · have n : a ≠ D := fun z => by subst z; rw [hP] at e; cases e
    rcases L.gr.sub a u e with q | ⟨q, o', q'⟩
    · exact .inl (ne n q)
    · exact .inr ⟨q, o', ne n q'⟩
  · obtain ⟨u, h⟩ := L.gr.dom a z
    exact ⟨u, ne (fun q => hi (q ▸ z)) h⟩
  · obtain ⟨p1, p2⟩ := L.gr.cell n d a e1 e2
    exact ⟨p1, cne (fun q => hi (q ▸ List.mem_of_getElem? e2)) p2⟩
  · exact ne (fun z => by subst z; rw [ht] at e; cases e) (L.ex.keep a u e n nx)
  · obtain ⟨u', h⟩ := L.ex.there a u e
    exact ⟨u', ne (fun z => by subst z; rw [ht] at e; cases e) h⟩
  · obtain ⟨a, h1, h2, h3, h4, h5⟩ := L.own i d e
    exact ⟨a, h1, cne (fun z => by subst z; exact ho i d e h1) h2, h3, h4, h5⟩
  · obtain ⟨a, h1, h2, h3, ⟨h4, u, h6⟩, h5⟩ := L.slf i d e
    exact ⟨a, h1, cne (fun z => by subst z; rw [ht] at h6; cases h6) h2, h3, ⟨h4, u, h6⟩, h5⟩
/-- an object that stands and that nobody here holds goes into P -/
theorem LRel.fixed {D : Addr} {o : HO} (L : LRel K t g s σ H) (hP : g.P D = none) (hi : ¬ D ∈ g.io) (ht : t.H D = none) (hD : H D = some o) (ho : ∀ (i : Nat) (d : Dat), s.env[i]? = some (.own d) → σ[i]? ≠ some (some (.ref D))) : LRel K t ⟨upd g.P D o, g.io⟩ s σ H := by
  have le : GLe g ⟨upd g.P D o, g.io⟩ := ⟨Le.new hP, List.prefix_refl _⟩
  have pne : ∀ {a : Addr}, a ≠ D → g.P a = none → (upd g.P D o) a = none := fun n e => by rw [upd_ne n]; exact e
  refine ⟨L.xin, ⟨fun a u e => ?_, L.gr.len, L.gr.nd, L.gr.dom, fun n d a e1 e2 => ?_⟩, ⟨⟨L.ex.le.trans le, L.ex.keep, L.ex.there, L.ex.new, L.ex.live⟩, fun a u e => ?_⟩, L.len, fun i d e => ?_, fun i d e => ?_, fun i d e => ?_, L.dst, L.one, L.lam⟩
  · have e : (upd g.P D o) a = some u := e
    by_cases q : a = D
    · subst q; rw [upd_same] at e; cases e; exact .inl hD
    · rw [upd_ne q] at e; exact L.gr.sub a u e
  · obtain ⟨p1, p2⟩ := L.gr.cell n d a e1 e2
    exact ⟨pne (fun q => hi (q ▸ List.mem_of_getElem? e2)) p1, p2.mono le fun _ z => z⟩
  · have n : a ≠ D := fun z => by subst z; rw [ht] at e; cases e
    show (upd g.P D o) a = t.g.P a
    rw [upd_ne n]; exact L.ex.pure a u e
  · obtain ⟨v, h1, h2⟩ := L.val i d e
    exact ⟨v, h1, le.rep h2⟩
  · obtain ⟨a, h1, h2, h3, h4, h5⟩ := L.own i d e
    exact ⟨a, h1, h2.mono le fun _ z => z, pne (fun z => by subst z; exact ho i d e h1) h3, h4, h5⟩
  · obtain ⟨a, h1, h2, h3, ⟨h4, u, h6⟩, h5⟩ := L.slf i d e
    exact ⟨a, h1, h2.mono le fun _ z => z, pne (fun z => by subst z; rw [ht] at h6; cases h6) h3, ⟨h4, u, h6⟩, h5⟩
/-- back from a block -/
theorem LRel.back {g' : Gh} {s' : Sto} {H' : Hp} {vs : List Nat} (L : LRel K t g s σ H) (l : GLe g g') (L' : LRel K t g' s' (L2.wipe σ vs) H') (hp : plainAt s.env vs = true) : LRel K t g' ⟨restE s.env s'.env vs, s'.cs⟩ σ H' := by
  have len : s'.env.length = s.env.length := by rw [L'.len, wipe_length, L.len]
  have cs : ∀ {i : Nat} {x : Slot}, (restE s.env s'.env vs)[i]? = some x → (i ∈ vs ∧ s.env[i]? = some x ∧ (x = .unset ∨ ∃ d, x = .val d)) ∨ (i ∉ vs ∧ s'.env[i]? = some x ∧ (L2.wipe σ vs)[i]? = σ[i]?) := fun {i x} e => by
    by_cases q : i ∈ vs
    · have hi : i < s'.env.length := by
        have := (List.getElem?_eq_some_iff.mp e).1
        rw [restE_length] at this
        exact this
      rw [restE_in hi q] at e
      cases e
      rw [len] at hi
      have e1 : s.env[i]? = some (s.env.getD i .unset) := by
        rw [List.getD_eq_getElem?_getD, List.getElem?_eq_getElem hi]; rfl
      refine .inl ⟨q, e1, ?_⟩
      have := List.all_eq_true.mp hp i q
      rw [e1] at this
      revert this
      cases s.env.getD i .unset with
      | unset => exact fun _ => .inl rfl
      | val d => exact fun _ => .inr ⟨d, rfl⟩
      | own d => exact fun z => Bool.noConfusion z
      | slf d => exact fun z => Bool.noConfusion z
      | lam c => exact fun z => Bool.noConfusion z
    · rw [restE_out q] at e
      exact .inr ⟨q, e, wipe_out q⟩
  refine ⟨L.xin, L'.gr, L'.ex, by rw [restE_length, len]; exact L.len, fun i d e => ?_, fun i d e => ?_, fun i d e => ?_, fun i j a d e z1 z2 z3 z4 => ?_, fun i j d e z1 z2 => ?_, fun i c e => ?_⟩
  · rcases cs e with ⟨_, h, _⟩ | ⟨_, h, h2⟩
    · obtain ⟨v, h1, h2⟩ := L.val i d h
      exact ⟨v, h1, l.rep h2⟩
    · rw [← h2]; exact L'.val i d h
  · rcases cs e with ⟨_, _, h | ⟨d', h⟩⟩ | ⟨_, h, h2⟩
    · cases h
    · cases h
    · rw [← h2]; exact L'.own i d h
  · rcases cs e with ⟨_, _, h | ⟨d', h⟩⟩ | ⟨_, h, h2⟩
    · cases h
    · cases h
    · rw [← h2]; exact L'.slf i d h
  · rcases cs z1 with ⟨_, _, h | ⟨d', h⟩⟩ | ⟨_, h, h2⟩
    · cases h
    · cases h
    · rcases cs z2 with ⟨_, _, h' | ⟨d', h'⟩⟩ | ⟨_, h', h2'⟩
      · cases h'
      · cases h'
      · rw [← h2] at z3; rw [← h2'] at z4; exact L'.dst i j a d e h h' z3 z4
  · rcases cs z1 with ⟨_, _, h | ⟨d', h⟩⟩ | ⟨_, h, h2⟩
    · cases h
    · cases h
    · rcases cs z2 with ⟨_, _, h' | ⟨d', h'⟩⟩ | ⟨_, h', h2'⟩
      · cases h'
      · cases h'
      · exact L'.one i j d e h h'
  · rcases cs e with ⟨_, _, h | ⟨d', h⟩⟩ | ⟨_, h, h2⟩
    · cases h
    · cases h
    · rw [← h2]; exact L'.lam i c h
end
section
variable {X : Cx}
structure GTs (X : Cx) (ifs : List Expr) (m : M Bool) : Prop where
  run : ∀ t W, TakesE X t W → PTs X ifs (rdT X.K t W m)
theorem gts_nil : GTs X [] (pur true) := ⟨fun t W tk => ⟨fun pins sh σ H Q I ⟨g, s, L, q⟩ => pts_nil.run pins sh σ H Q I (at_here (v := true) L q rfl)⟩⟩
theorem gts_one {c : Expr} {m : M Bool} (h : GT X c m) : GTs X [c] m := ⟨fun t W tk => pts_one (h.run t W tk)⟩
theorem takes_blk {t : Ent} {s : Shared} {H : Hp} {scope : Scope} {ce : Env} {fp : List Addr} : TakesE (X.blk s H scope ce fp) t (fun _ _ _ _ => False) := ⟨fun u s' h => by
  obtain ⟨a, B, sI, pins, σ, H, cls, d, e, I, nb, up, sky, na, os, ag, w⟩ := h
  exact w, fun _ h => by
  have h : X.stack = ce :: X.stack := h
  have := congrArg List.length h
  simp at this⟩
/-- a target: the heap stays, only the slots vs change -/
structure GGc (X : Cx) (tg : Expr) (m : Dat → MS) (vs : List Nat) : Prop where
  run : ∀ t, PG X tg (fun v σ H Q => ∃ g s d, LRel X.K t g s σ H ∧ RepG X.K g v d ∧ match m d s with
    | .nx s' => ∀ σ', LRel X.K t g s' σ' H → σ'.length = σ.length → (∀ i, i ∉ vs → σ'[i]? = σ[i]?) → Q σ' H
    | _ => False)
  cs : ∀ d s s', m d s = .nx s' → s'.cs = s.cs
theorem GGc.gg {tg : Expr} {m : Dat → MS} {vs : List Nat} (h : GGc X tg m vs) : GG X tg m := ⟨fun t => ⟨fun pins sh σ H v u Q I rv ⟨g, s, d, L, r, q⟩ => (h.run t).run pins sh σ H v u Q I rv ⟨g, s, d, L, r, by
  cases e : m d s with
  | nx s' =>
    rw [e] at q
    exact fun σ' L' _ _ => q g σ' H (GLe.refl _) L'
  | _ => rw [e] at q; exact q⟩⟩⟩
theorem wipe_in {σ : L2.St} {i : Nat} (hi : i < σ.length) : ∀ {vs : List Nat}, i ∈ vs → (wipe σ vs)[i]? = some none
  | v :: vs, h => by
    unfold wipe
    by_cases q : v = i
    · subst q
      rw [List.getElem?_set_self (by rw [wipe_length]; exact hi)]
    · rw [List.getElem?_set_ne q]
      exact wipe_in hi ((List.mem_cons.mp h).resolve_left (Ne.symm q))
theorem wipe_eq {σ σ2 : L2.St} {vs : List Nat} (hl : σ2.length = σ.length) (h : ∀ i, i ∉ vs → σ2[i]? = σ[i]?) : wipe σ2 vs = wipe σ vs := by
  apply List.ext_getElem?
  intro i
  by_cases q : i ∈ vs
  · by_cases hi : i < σ.length
    · rw [wipe_in (by rw [hl]; exact hi) q, wipe_in hi q]
    · rw [List.getElem?_eq_none (by rw [wipe_length, hl]; omega), List.getElem?_eq_none (by rw [wipe_length]; omega)]
  · rw [wipe_out q, wipe_out q, h i q]
/-- an address that stands and that nobody here holds, put into the entry's heap -/
theorem LRel.pin {K : PySem.W.Frag} {t : Ent} {g : Gh} {s : Sto} {σ : L2.St} {H : Hp} {D : Addr} {o : HO} (L : LRel K t g s σ H) (hP : g.P D = none) (hi : ¬ D ∈ g.io) (hD : H D = some o) (ho : ∀ (i : Nat) (d : Dat), s.env[i]? = some (.own d) → σ[i]? ≠ some (some (.ref D))) : LRel K ⟨t.x, t.g, t.cs, upd t.H D o, t.lam⟩ g s σ H := by
  have tP : t.g.P D = none := by
    cases e : t.g.P D with
    | none => rfl
    | some u => rw [L.ex.le.p D u e] at hP; cases hP
  have sp : ∀ {a : Addr} {u : HO}, (upd t.H D o) a = some u → (a = D ∧ u = o) ∨ t.H a = some u := fun {a u} e => by
    by_cases q : a = D
    · subst q; rw [upd_same] at e; cases e; exact .inl ⟨rfl, rfl⟩
    · rw [upd_ne q] at e; exact .inr e
  have no : ∀ {a : Addr}, a ≠ D → t.H a = none → (upd t.H D o) a = none := fun n e => by rw [upd_ne n]; exact e
  refine ⟨fun a z => ?_, L.gr, ⟨⟨L.ex.le, fun a u e n nx => ?_, fun a u e => ?_, fun a z => ?_, fun a z => ?_⟩, fun a u e => ?_⟩, L.len, L.val, fun i d e => ?_, fun i d e => ?_, L.dst, L.one, L.lam⟩
  · obtain ⟨u, h⟩ := L.xin a z
    by_cases q : a = D
    · subst q; exact ⟨o, upd_same⟩
    · exact ⟨u, by show (upd t.H D o) a = _; rw [upd_ne q]; exact h⟩
  · rcases sp e with ⟨rfl, rfl⟩ | e
    · exact hD
    · exact L.ex.keep a u e n nx
  · rcases sp e with ⟨rfl, rfl⟩ | e
    · exact ⟨_, hD⟩
    · exact L.ex.there a u e
  · rcases L.ex.new a z with q | q
    · exact .inl q
    · exact .inr (no (fun w => hi (w ▸ z)) q)
  · rcases L.ex.live a z with q | q
    · exact .inl q
    · exact .inr (no (fun w => hi (w ▸ live_in z)) q)
  · rcases sp e with ⟨rfl, rfl⟩ | e
    · rw [hP]; exact tP.symm
    · exact L.ex.pure a u e
  · obtain ⟨a, h1, h2, h3, h4, h5⟩ := L.own i d e
    exact ⟨a, h1, h2, h3, no (fun z => by subst z; exact ho i d e h1) h4, h5⟩
  · obtain ⟨a, h1, h2, h3, ⟨h4, u, h6⟩, h5⟩ := L.slf i d e
    refine ⟨a, h1, h2, h3, ⟨h4, ?_⟩, h5⟩
    by_cases q : a = D
    · subst q; exact ⟨o, upd_same⟩
    · exact ⟨u, by show (upd t.H D o) a = _; rw [upd_ne q]; exact h6⟩
/-- and back -/
theorem LRel.unpin {K : PySem.W.Frag} {t : Ent} {g : Gh} {s : Sto} {σ : L2.St} {H : Hp} {D : Addr} {o : HO} (L : LRel K ⟨t.x, t.g, t.cs, upd t.H D o, t.lam⟩ g s σ H) (tD : t.H D = none) (xin : ∀ a ∈ t.x, ∃ o, t.H a = some o) (gP : t.g.P D = none) (gi : ¬ D ∈ t.g.io) :
    LRel K t g s σ H ∧ g.P D = none ∧ ¬ D ∈ g.io ∧ ∀ (i : Nat) (d : Dat), s.env[i]? = some (.own d) → σ[i]? ≠ some (some (.ref D)) := by
  have up : ∀ {a : Addr} {u : HO}, t.H a = some u → (upd t.H D o) a = some u := fun {a u} e => by
    rw [upd_ne (fun z => by subst z; rw [tD] at e; cases e)]; exact e
  have dn : ∀ {a : Addr}, (upd t.H D o) a = none → t.H a = none := fun {a} e => by
    by_cases q : a = D
    · subst q; exact tD
    · rw [upd_ne q] at e; exact e
  have iD : ¬ D ∈ g.io := fun z => by
    rcases L.ex.new D z with q | q
    · exact gi q
    · have q : (upd t.H D o) D = none := q
      rw [upd_same] at q; cases q
  refine ⟨⟨xin, L.gr, ⟨⟨L.ex.le, fun a u e n nx => L.ex.keep a u (up e) n nx, fun a u e => L.ex.there a u (up e), fun a z => ?_, fun a z => ?_⟩, fun a u e => L.ex.pure a u (up e)⟩, L.len, L.val, fun i d e => ?_, fun i d e => ?_, L.dst, L.one, L.lam⟩, (L.ex.pure D o upd_same).trans gP, iD, fun i d e z => ?_⟩
  · rcases L.ex.new a z with q | q
    · exact .inl q
    · exact .inr (dn q)
  · rcases L.ex.live a z with q | q
    · exact .inl q
    · exact .inr (dn q)
  · obtain ⟨a, h1, h2, h3, h4, h5⟩ := L.own i d e
    exact ⟨a, h1, h2, h3, dn h4, h5⟩
  · obtain ⟨a, h1, h2, h3, ⟨h4, u, h6⟩, h5⟩ := L.slf i d e
    exact ⟨a, h1, h2, h3, ⟨h4, xin a h4⟩, h5⟩
  · obtain ⟨a, h1, h2, h3, h4, h5⟩ := L.own i d e
    rw [z] at h1
    cases h1
    have h4 : (upd t.H D o) D = none := h4
    rw [upd_same] at h4; cases h4
theorem lc_imp {t : Ent} {W : WX} {mi : M (List Dat)} {mg : Dat → MS} {mt : M Bool} {me : M Dat} {vs : List Nat} (hcs : ∀ d s s', mg d s = .nx s' → s'.cs = s.cs) {σ : L2.St} {H : Hp} {Q : VK} (hr : rdE X.K t W (lcM vs mi mg mt me) σ H Q) :
    tLc (rdG X.K t W (fun g J ds => JOk X.K t g J ds) mi) (fun v σ H Q => ∃ t g s d, LRel X.K t g s σ H ∧ RepG X.K g v d ∧ match mg d s with
    | .nx s' => ∀ σ', LRel X.K t g s' σ' H → σ'.length = σ.length → (∀ i, i ∉ vs → σ'[i]? = σ[i]?) → Q σ' H
    | _ => False) (fun σ H Q => ∃ t, rdT X.K t (fun _ _ _ _ => False) mt σ H Q) (fun σ H Q => ∃ t, rdE X.K t (fun _ _ _ _ => False) me σ H Q) vs σ H Q := by
  obtain ⟨g, s, L, q⟩ := hr
  unfold lcM at q
  refine rd_seq (R := fun g J ds => JOk X.K t g J ds) (Q1 := fun J H1 => _) L q fun ds g1 s1 J H1 ek1 L1 jok q1 D hD => ?_
  by_cases hz : plainAt s1.env vs = true ∧ ds.length ≤ sizeLine
  case neg =>
    have q1 : atE X.K t W g1 s1 σ H1 (if plainAt s1.env vs = true ∧ ds.length ≤ sizeLine then _ else .stuck) Q := q1
    rw [if_neg hz] at q1; exact q1.elim
  have q1 : atE X.K t W g1 s1 σ H1 (if plainAt s1.env vs = true ∧ ds.length ≤ sizeLine then (match lcLoop vs mg mt me ds [] ⟨wipeE s1.env vs, s1.cs⟩ with
    | .ret acc s' => .ret (.lst acc) ⟨restE s1.env s'.env vs, s'.cs⟩
    | _ => .stuck) else .stuck) Q := q1
  rw [if_pos hz] at q1
  obtain ⟨hpl, hsz⟩ := hz
  have tD : t.H D = none := L1.ex.toEK.free hD
  have pD : g1.P D = none := by
    cases e : g1.P D with
    | none => rfl
    | some u =>
      rcases L1.gr.sub D u e with q | ⟨_, o, q⟩
      · rw [hD] at q; cases q
      · rw [hD] at q; cases q
  have iD : ¬ D ∈ g1.io := fun z => by
    obtain ⟨o, h⟩ := L1.gr.dom D z
    rw [hD] at h; cases h
  have tP : t.g.P D = none := by
    cases e : t.g.P D with
    | none => rfl
    | some u => rw [L1.ex.le.p D u e] at pD; cases pD
  have ti : ¬ D ∈ t.g.io := fun z => iD (L1.ex.le.i.mem z)
  have Lw := L1.wipe vs
  have own0 : ∀ (i : Nat) (d : Dat), (wipeE s1.env vs)[i]? = some (.own d) → (wipe σ vs)[i]? ≠ some (some (.ref D)) := fun i d e z => by
    obtain ⟨a, h1, h2, _⟩ := Lw.own i d e
    rw [z] at h1
    cases h1
    obtain ⟨o, ho⟩ := h2.there
    rw [hD] at ho; cases ho
  refine ⟨fun i m H2 => m = ds.length - i ∧ i ≤ ds.length ∧ ∃ g2 s2 acc accV, LRel X.K t g2 s2 (wipe σ vs) H2 ∧ EK [] g1 s1.cs H1 g2 s2.cs H2 ∧ H2 D = some (.lst accV) ∧ RepsG X.K g2 accV acc ∧ g2.P D = none ∧ ¬ D ∈ g2.io ∧ acc.length ≤ i ∧
    (∀ (i : Nat) (d : Dat), s2.env[i]? = some (.own d) → (wipe σ vs)[i]? ≠ some (some (.ref D))) ∧ atE X.K t W g1 s1 σ H1 (match lcLoop vs mg mt me (ds.drop i) acc s2 with
      | .ret acc s' => .ret (.lst acc) ⟨restE s1.env s'.env vs, s'.cs⟩
      | _ => .stuck) Q, ⟨ds.length, by simp, Nat.zero_le _, g1, ⟨wipeE s1.env vs, s1.cs⟩, [], [], Lw.poke pD iD tD own0, ?_, upd_same, .nil, pD, iD, Nat.le_refl _, own0, q1⟩, ?_⟩
  · refine ⟨GLe.refl _, fun a o e _ _ => ?_, fun a o e => ⟨o, ?_⟩, fun _ z => .inl z, fun _ z => .inl z⟩ <;> (rw [upd_ne (fun z => by subst z; rw [hD] at e; cases e)]; exact e)
  rintro i m H2 ⟨rfl, hle, g2, s2, acc, accV, L2, ek2, hD2, rA, pD2, iD2, hal, ow2, q2⟩
  have L2p := L2.pin (D := D) pD2 iD2 hD2 ow2
  obtain ⟨j1, j2, j3⟩ := jok i _ g2 s2 _ H2 ek2.le L2p
  by_cases hlt : i < ds.length
  case neg =>
    refine .inl ⟨j2 (by omega), ?_⟩
    rw [List.drop_eq_nil_of_le (by omega)] at q2
    have q2 : atE X.K t W g1 s1 σ H1 (.ret (.lst acc) ⟨restE s1.env s2.env vs, s2.cs⟩) Q := q2
    have le : GLe g2 ⟨upd g2.P D (.lst accV), g2.io⟩ := ⟨Le.new pD2, List.prefix_refl _⟩
    refine q2 ⟨upd g2.P D (.lst accV), g2.io⟩ (.ref D) H2 ⟨ek2.le.trans le, ek2.keep, ek2.there, ek2.new, ek2.live⟩ (L1.back (ek2.le.trans le) (L2.fixed pD2 iD2 tD hD2 ow2) hpl) (.lst (.inl (.inl upd_same)) (le.reps rA))
  refine .inr ⟨j1 hlt, fun H' => ∃ g2 s2 acc accV, LRel X.K t g2 s2 (wipe σ vs) H' ∧ EK [] g1 s1.cs H1 g2 s2.cs H' ∧ H' D = some (.lst accV) ∧ RepsG X.K g2 accV acc ∧ g2.P D = none ∧ ¬ D ∈ g2.io ∧ acc.length ≤ i + 1 ∧
    (∀ (i : Nat) (d : Dat), s2.env[i]? = some (.own d) → (wipe σ vs)[i]? ≠ some (some (.ref D))) ∧ atE X.K t W g1 s1 σ H1 (match lcLoop vs mg mt me (ds.drop (i + 1)) acc s2 with
      | .ret acc s' => .ret (.lst acc) ⟨restE s1.env s'.env vs, s'.cs⟩
      | _ => .stuck) Q, fun H' w => ⟨ds.length - (i + 1), by omega, rfl, by omega, w⟩, fun x H' y => ?_⟩
  obtain ⟨g3, e3, L3, r3⟩ := j3 x H' ds[i] (List.getElem?_eq_getElem hlt) y
  rw [List.drop_eq_getElem_cons hlt] at q2
  refine ⟨_, g3, s2, ds[i], L3, r3, ?_⟩
  have noLive : ∀ {g : Gh} {cs : List (Option Dat)}, ¬ D ∈ g.io → ¬ Live g cs D := fun h z => h (live_in z)
  have hD3 : H' D = some (.lst accV) := e3.keep D _ hD2 (noLive iD2) (by simp)
  unfold lcLoop at q2
  cases eg : mg ds[i] s2 with
  | nx s4 =>
    rw [eg] at q2
    intro σ4 L4 hl4 ag4
    have cs4 : s4.cs = s2.cs := hcs _ _ _ eg
    have w4 : wipe σ4 vs = wipe σ vs := by
      have := wipe_eq hl4 ag4
      rw [this]
      exact wipe_eq (wipe_length _ _) fun j hj => wipe_out hj
    refine ⟨w4, _, g3, s4, L4, ?_⟩
    have iD3 : ¬ D ∈ g3.io := (L3.unpin tD L1.xin tP ti).2.2.1
    have ek3 : EK [] g1 s1.cs H1 g3 s4.cs H' := by rw [cs4]; exact ek2.trans e3
    have q2 : atE X.K t W g1 s1 σ H1 (match (match mt s4 with
      | .ret false s2 => lcLoop vs mg mt me (ds.drop (i + 1)) acc ⟨wipeE s2.env vs, s2.cs⟩
      | .ret true s2 => (match me s2 with
        | .ret y s3 => lcLoop vs mg mt me (ds.drop (i + 1)) (acc ++ [y]) ⟨wipeE s3.env vs, s3.cs⟩
        | _ => .stuck)
      | _ => .stuck) with
      | .ret acc s' => .ret (.lst acc) ⟨restE s1.env s'.env vs, s'.cs⟩
      | _ => .stuck) Q := q2
    cases et : mt s4 with
    | exc x s5 => rw [et] at q2; exact q2.elim
    | stuck => rw [et] at q2; exact q2.elim
    | ret b s5 =>
      rw [et] at q2
      intro g5 v5 H5 e5 L5 r5
      subst r5
      have hD5 : H5 D = some (.lst accV) := e5.keep D _ hD3 (noLive iD3) (by simp)
      obtain ⟨L5u, pD5, iD5, ow5⟩ := L5.unpin tD L1.xin tP ti
      have ek5 := ek3.trans e5
      have rA5 : RepsG X.K g5 accV acc := (e3.le.trans e5.le).reps rA
      cases v5 with
      | false =>
        have q2 : atE X.K t W g1 s1 σ H1 (match lcLoop vs mg mt me (ds.drop (i + 1)) acc ⟨wipeE s5.env vs, s5.cs⟩ with
          | .ret acc s' => .ret (.lst acc) ⟨restE s1.env s'.env vs, s'.cs⟩
          | _ => .stuck) Q := q2
        have Lw5 := L5u.wipe vs
        rw [w4] at Lw5
        rw [if_neg (by decide)]
        refine ⟨g5, ⟨wipeE s5.env vs, s5.cs⟩, acc, accV, Lw5, ek5, hD5, rA5, pD5, iD5, by omega, fun j d e => ?_, q2⟩
        have hj : j ∉ vs := fun z => by cases wipeE_in z _ e
        have e : (wipeE s5.env vs)[j]? = some (.own d) := e
        rw [wipeE_out hj] at e
        rw [← w4, wipe_out hj]
        exact ow5 j d e
      | true =>
        have q2 : atE X.K t W g1 s1 σ H1 (match (match me s5 with
          | .ret y s3 => lcLoop vs mg mt me (ds.drop (i + 1)) (acc ++ [y]) ⟨wipeE s3.env vs, s3.cs⟩
          | _ => .stuck) with
          | .ret acc s' => .ret (.lst acc) ⟨restE s1.env s'.env vs, s'.cs⟩
          | _ => .stuck) Q := q2
        rw [if_pos rfl]
        refine ⟨_, g5, s5, L5, ?_⟩
        cases ee : me s5 with
        | exc x s6 => rw [ee] at q2; exact q2.elim
        | stuck => rw [ee] at q2; exact q2.elim
        | ret y s6 =>
          rw [ee] at q2
          intro g6 v6 H6 e6 L6 r6
          have q2 : atE X.K t W g1 s1 σ H1 (match lcLoop vs mg mt me (ds.drop (i + 1)) (acc ++ [y]) ⟨wipeE s6.env vs, s6.cs⟩ with
            | .ret acc s' => .ret (.lst acc) ⟨restE s1.env s'.env vs, s'.cs⟩
            | _ => .stuck) Q := q2
          have hD6 : H6 D = some (.lst accV) := e6.keep D _ hD5 (noLive iD5) (by simp)
          obtain ⟨L6u, pD6, iD6, ow6⟩ := L6.unpin tD L1.xin tP ti
          have ek6 := ek5.trans e6
          have rA6 : RepsG X.K g6 (accV ++ [v6]) (acc ++ [y]) := Reps.append (e6.le.reps rA5) (.cons r6 .nil)
          have hal6 : accV.length ≤ i := by rw [rA.length]; exact hal
          refine ⟨accV, hD6, by omega, g6, ⟨wipeE s6.env vs, s6.cs⟩, acc ++ [y], accV ++ [v6], ?_, ?_, upd_same, rA6, pD6, iD6, by rw [List.length_append, List.length_singleton]; omega, fun j d e => ?_, q2⟩
          · have Lw6 := (L6u.poke (o := .lst (accV ++ [v6])) pD6 iD6 tD ow6).wipe vs
            rw [w4] at Lw6
            exact Lw6
          · refine ⟨ek6.le, fun a o e n nx => ?_, fun a o e => ?_, ek6.new, ek6.live⟩
            · rw [upd_ne (fun z => by subst z; rw [hD] at e; cases e)]; exact ek6.keep a o e n nx
            · obtain ⟨o', h'⟩ := ek6.there a o e
              exact ⟨o', by rw [upd_ne (fun z => by subst z; rw [hD] at e; cases e)]; exact h'⟩
          · have hj : j ∉ vs := fun z => by cases wipeE_in z _ e
            have e : (wipeE s6.env vs)[j]? = some (.own d) := e
            rw [wipeE_out hj] at e
            rw [← w4, wipe_out hj]
            exact ow6 j d e
  | _ => rw [eg] at q2; exact q2.elim
theorem ge_lc {elt tg iter : Expr} {ifs : List Expr} {scope : Scope} {own : List (Str × Nat)} {pos : Pos} {mi : M (List Dat)} {mg : Dat → MS} {mt : M Bool} {me : M Dat} {vs : List Nat} (hvs : own.map (·.2) = vs) (hc : X.calm = true) (hN : X.N.Nodup) (hi : GI X tg iter mi) (ok : BlkOk X.N X.env.scope scope own)
    (hg : ∀ (s : Shared) (H : Hp) (C : Addr) (cl : List (Str × Addr)) (fp : List Addr), GGc (X.blk s H scope (compEnvC scope cl C X.env) fp) tg mg vs) (hcs : ∀ d s s', mg d s = .nx s' → s'.cs = s.cs) (ht : ∀ (s : Shared) (H : Hp) (C : Addr) (cl : List (Str × Addr)) (fp : List Addr), GTs (X.blk s H scope (compEnvC scope cl C X.env) fp) ifs mt)
    (he : ∀ (s : Shared) (H : Hp) (C : Addr) (cl : List (Str × Addr)) (fp : List Addr), GE (X.blk s H scope (compEnvC scope cl C X.env) fp) elt me) (hs : ∀ x, foldedSetIterable iter X.env x = pure x) :
    GE X (.ListComp elt [⟨tg, iter, ifs, 0⟩] scope pos) (lcM vs mi mg mt me) := ⟨fun t W tk => by
  have P := pe_lc (pos := pos) (te := fun σ H Q => ∃ t, rdE X.K t (fun _ _ _ _ => False) me σ H Q) (tt := fun σ H Q => ∃ t, rdT X.K t (fun _ _ _ _ => False) mt σ H Q) (g := (fun v σ H Q => ∃ t g s d, LRel X.K t g s σ H ∧ RepG X.K g v d ∧ match mg d s with
    | .nx s' => ∀ σ', LRel X.K t g s' σ' H → σ'.length = σ.length → (∀ i, i ∉ vs → σ'[i]? = σ[i]?) → Q σ' H
    | _ => False)) hc hN (hi.run t W tk) ok (fun s H C cl fp => ⟨fun pins sh σ H' v u Q I rv ⟨t, q⟩ => ((hg s H C cl fp).run t).run pins sh σ H' v u Q I rv q⟩) (fun s H C cl fp => ⟨fun pins sh σ H' Q I ⟨t, q⟩ => ((ht s H C cl fp).run t (fun _ _ _ _ => False) takes_blk).run pins sh σ H' Q I q⟩) (fun s H C cl fp => ⟨fun pins sh σ H' Q I ⟨t, q⟩ => ((he s H C cl fp).run t (fun _ _ _ _ => False) takes_blk).run pins sh σ H' Q I q⟩) hs
  rw [hvs] at P
  exact PE.imp P fun σ H Q h => lc_imp hcs h⟩
theorem gs_setLc {i : Nat} {y : Str} {py : Pos} {spos : Pos} {elt tg iter : Expr} {ifs : List Expr} {scope : Scope} {own : List (Str × Nat)} {pos : Pos} {mi : M (List Dat)} {mg : Dat → MS} {mt : M Bool} {me : M Dat} {vs : List Nat} (hvs : own.map (·.2) = vs) (hc : X.calm = true) (hN : X.N.Nodup) (hy : X.N[i]? = some y) (hyl : X.env.scope.names.lookup y = some .local)
    (hsw : swapsWith (.ListComp elt [⟨tg, iter, ifs, 0⟩] scope pos) (some (.Name y py)) spos.line X.env = pure true) (hi : GI X tg iter mi) (ok : BlkOk X.N X.env.scope scope own)
    (hg : ∀ (s : Shared) (H : Hp) (C : Addr) (cl : List (Str × Addr)) (fp : List Addr), GGc (X.blk s H scope (compEnvC scope cl C X.env) fp) tg mg vs) (hcs : ∀ d s s', mg d s = .nx s' → s'.cs = s.cs) (ht : ∀ (s : Shared) (H : Hp) (C : Addr) (cl : List (Str × Addr)) (fp : List Addr), GTs (X.blk s H scope (compEnvC scope cl C X.env) fp) ifs mt)
    (he : ∀ (s : Shared) (H : Hp) (C : Addr) (cl : List (Str × Addr)) (fp : List Addr), GE (X.blk s H scope (compEnvC scope cl C X.env) fp) elt me) (hs : ∀ x, foldedSetIterable iter X.env x = pure x) :
    GS X (.Assign [.Name y py] (.ListComp elt [⟨tg, iter, ifs, 0⟩] scope pos) spos) (bndS (lcM vs mi mg mt me) (asgS i)) := ⟨fun t W tk => by
  have P := ps_setLc (pos := pos) (spos := spos) (py := py) (te := fun σ H Q => ∃ t, rdE X.K t (fun _ _ _ _ => False) me σ H Q) (tt := fun σ H Q => ∃ t, rdT X.K t (fun _ _ _ _ => False) mt σ H Q) (g := (fun v σ H Q => ∃ t g s d, LRel X.K t g s σ H ∧ RepG X.K g v d ∧ match mg d s with
    | .nx s' => ∀ σ', LRel X.K t g s' σ' H → σ'.length = σ.length → (∀ i, i ∉ vs → σ'[i]? = σ[i]?) → Q σ' H
    | _ => False)) hc hN hy hyl hsw (hi.run t W tk) ok (fun s H C cl fp => ⟨fun pins sh σ H' v u Q I rv ⟨t, q⟩ => ((hg s H C cl fp).run t).run pins sh σ H' v u Q I rv q⟩) (fun s H C cl fp => ⟨fun pins sh σ H' Q I ⟨t, q⟩ => ((ht s H C cl fp).run t (fun _ _ _ _ => False) takes_blk).run pins sh σ H' Q I q⟩) (fun s H C cl fp => ⟨fun pins sh σ H' Q I ⟨t, q⟩ => ((he s H C cl fp).run t (fun _ _ _ _ => False) takes_blk).run pins sh σ H' Q I q⟩) hs
  rw [hvs] at P
  refine PS.imp P fun D σ H ⟨g, s, L, q⟩ => lc_imp hcs (Q := fun x H1 => gName i x σ H1 D.nx) ?_
  exact rdS_seq (Q1 := fun x H1 => gName i x σ H1 D.nx) L q fun d g1 s1 v H1 ek L1 r q1 => q1 g1 _ H1 (GLe.refl _) (L1.setVal r)⟩
end
end Zw

namespace Zw
open PySem L2 PyProof.Rows PySem.Spec ClX

/-! ### a list unpacked -/
section
variable {prog : Program} {w : World} {A : Around} {E : Value → Shared → Prop} {s : Shared}
theorem IsList.extBut {h h' : Heap} {a b : Addr} {its : Array Value} (x : h.IsList a its) (hs : Heap.ExtBut b h h') (hab : a ≠ b) : h'.IsList a its := let ⟨o, e, r⟩ := x; ⟨o, hs a o hab e, r⟩
theorem draw_list {it t : Addr} {items : Array Value} (hne : t ≠ it) : ∀ (n i : Nat) (s : Shared) (Q : List Value → Shared → Prop), s.heap.IsListIter it t i → s.heap.IsList t items → i + n ≤ items.size →
    (∀ h' : Heap, h'.IsListIter it t (i + n) → Heap.SameBut it s.heap h' → Q ((items.toList.drop i).take n) { s with heap := h' }) → wpAny (model prog w) A (draw (.ref it) n) Q E s
  | 0, i, s, Q, hit, _, _, hQ => by
    show wpAny _ _ (pure []) Q E s
    exact wpAny_pure (by simpa using hQ s.heap hit (Heap.SameBut.refl ..))
  | n + 1, i, s, Q, hit, ht, hle, hQ => by
    have hlt : i < items.size := by omega
    show wpAny _ _ (pyNext (.ref it) >>= _) Q E s
    refine wpAny_bind (wpAny_pyNext_list_item hit ht (x := items[i]) (by simp [hlt]) fun h₁ hit₁ hs₁ => ?_)
    refine wpAny_bind (wpAny_holding (draw_list hne n (i + 1) _ _ hit₁ (IsList.extBut ht hs₁.extBut hne) (by omega) fun h₂ hit₂ hs₂ => wpAny_pure ?_))
    have hd : items.toList.drop i = items[i] :: items.toList.drop (i + 1) := by simp [List.drop_eq_getElem_cons, hlt]
    have := hQ h₂ (by rw [show i + (n + 1) = i + 1 + n by omega]; exact hit₂) (hs₁.trans hs₂)
    rw [hd, List.take_succ_cons] at this
    exact this
theorem unpackItems_list {t : Addr} {items : Array Value} {Q : List Value → Shared → Prop} (hh : A.handled = none) (ht : s.heap.IsList t items)
    (hQ : ∀ h', Heap.ExtBut s.heap.objs.size s.heap h' → Q items.toList { s with heap := h' }) : wpAny (model prog w) A (unpackItems (.ref t) items.size none) Q E s := by
  have hlt : t ≠ s.heap.objs.size := by obtain ⟨o, ho, _⟩ := ht; exact Nat.ne_of_lt (Heap.lt_size ho)
  have htp : ∀ o, (s.heap.push o).IsList t items := fun o => let ⟨ob, e, r⟩ := ht; ⟨ob, Heap.get?_push_of_some _ e, r⟩
  unfold unpackItems
  refine wpAny_bind ?_
  · unfold notIterableAtAll
    refine wpAny_bind (wpAny_specialOf ht.typeIs PySem.slot_list_iter.lookup ?_)
    refine wpAny_pure ?_
    simp only [Bool.false_eq_true, if_false]
    refine wpAny_bind (wpAny_holding (wpAny_pyIter_list ht ?_))
    refine wpAny_bind (wpAny_holding (draw_list hlt items.size 0 _ _ ⟨_, Heap.get?_push_size _ rfl, rfl, rfl⟩ (htp _) (by omega) fun h₁ hit₁ hs₁ => ?_))
    have hall : List.take items.size (List.drop 0 items.toList) = items.toList := by
      rw [List.drop_zero]; exact List.take_of_length_le (by simp)
    rw [hall]
    rw [if_neg (by simp)]
    have ht₁ : h₁.IsList t items := IsList.extBut (htp _) hs₁.extBut hlt
    refine wpAny_bind (wpAny_holding (wpAny_pyNext_list_end hh hit₁ ht₁ (by simp) fun h₂ he₂ => ?_))
    simp only [Option.isSome_none, Bool.false_eq_true, if_false]
    refine wpAny_pure (hQ h₂ fun b o hb e => he₂ b o hb (hs₁.extBut b o hb (Heap.get?_push_of_some _ e)))
theorem assign_Tuple_list {env : Env} {elts : List Expr} {x1} {pos : Pos} {t : Addr} {items : Array Value} {Q : Unit → Shared → Prop} (hh : A.handled = none) (ht : s.heap.IsList t items)
    (hn : (assignEach elts env).length = items.size) (hstar : (assignEach elts env).findIdx? (·.1) = none)
    (h : ∀ h', Heap.ExtBut s.heap.objs.size s.heap h' → wpAny (model prog w) A (assignInOrder ((assignEach elts env).map (·.2)) items.toList) Q E { s with heap := h' }) :
    wpAny (model prog w) A (assign (.Tuple elts x1 pos) env (.ref t)) Q E s := by
  rw [assign_Tuple]
  refine wpAny_bind (wpAny_standAt ?_)
  unfold unpack
  rw [hn, hstar]
  exact wpAny_bind (wpAny_holding (unpackItems_list hh ht h))
end
section
variable {X : Cx}
/-! ### targets -/
theorem ggc_name {i : Nat} {x : Str} {pos : Pos} (hN : X.N.Nodup) (hi : X.N[i]? = some x) (hx : Loc X.env.scope x) (hf : X.fn x = true ∨ X.env.scope.names.lookup x = some .local) : GGc X (.Name x pos) (asgS i) [i] :=
  ⟨fun t => ⟨fun pins sh σ H v u Q I rv ⟨g, s, d, L, r, q⟩ => (pg_name hN hi hx hf).run pins sh σ H v u Q I rv (q _ (L.setVal r) (by simp) fun j hj => by
    rw [List.getElem?_set_ne (fun z => hj (by simp [z]))])⟩, fun d s s' e => by cases e; rfl⟩
/-- targets in a row -/
structure GGs (X : Cx) (ts : List Expr) (m : List Dat → MS) (vs : List Nat) : Prop where
  run : ∀ t, PGs X ts (fun us σ H Q => ∃ g s ds, LRel X.K t g s σ H ∧ RepsG X.K g us ds ∧ match m ds s with
    | .nx s' => ∀ σ', LRel X.K t g s' σ' H → σ'.length = σ.length → (∀ i, i ∉ vs → σ'[i]? = σ[i]?) → Q σ' H
    | _ => False)
  cs : ∀ d s s', m d s = .nx s' → s'.cs = s.cs
def nilG : List Dat → MS := fun ds => match ds with
  | [] => nextS
  | _ => fun _ => .stuck
def consG (a : Dat → MS) (r : List Dat → MS) : List Dat → MS := fun ds => match ds with
  | d :: ds => seqS (a d) (r ds)
  | [] => fun _ => .stuck
theorem ggs_nil : GGs X [] nilG [] := ⟨fun t => ⟨fun pins sh σ H vs us Q I rv ⟨g, s, ds, L, r, q⟩ => pgs_nil.run pins sh σ H vs us Q I rv (by
  cases r with
  | nil => exact ⟨rfl, q σ L rfl fun _ _ => rfl⟩
  | cons _ _ => exact q.elim)⟩, fun d s s' e => by
    cases d with
    | nil => cases e; rfl
    | cons _ _ => cases e⟩
theorem ggs_cons {e : Expr} {es : List Expr} {a : Dat → MS} {r : List Dat → MS} {v1 v2 : List Nat} (h1 : GGc X e a v1) (h2 : GGs X es r v2) (hs : (assignEach (e :: es) X.env).map (·.2) = assign e X.env :: (assignEach es X.env).map (·.2)) : GGs X (e :: es) (consG a r) (v1 ++ v2) :=
  ⟨fun t => ⟨fun pins sh σ H vs us Q I rv ⟨g, s, ds, L, rp, q⟩ => (pgs_cons (h1.run t) (h2.run t) hs).run pins sh σ H vs us Q I rv (by
    cases rp with
    | nil => exact q.elim
    | @cons v d vs' ds' r1 r2 =>
      refine ⟨v, vs', rfl, g, s, d, L, r1, ?_⟩
      have q : (match seqS (a d) (r ds') s with
        | .nx s' => ∀ σ', LRel X.K t g s' σ' H → σ'.length = σ.length → (∀ i, i ∉ v1 ++ v2 → σ'[i]? = σ[i]?) → Q σ' H
        | _ => False) := q
      unfold seqS at q
      cases ea : a d s with
      | nx s1 =>
        rw [ea] at q
        intro σ1 L1 l1 g1
        refine ⟨g, s1, ds', L1, r2, ?_⟩
        dsimp only at q
        cases er : r ds' s1 with
        | nx s2 =>
          rw [er] at q
          exact fun σ2 L2 l2 g2 => q σ2 L2 (l2.trans l1) fun i hi => (g2 i fun z => hi (List.mem_append_right _ z)).trans (g1 i fun z => hi (List.mem_append_left _ z))
        | _ => rw [er] at q; exact q.elim
      | _ => rw [ea] at q; exact q.elim)⟩, fun d s s' e => by
    cases d with
    | nil => cases e
    | cons d ds =>
      unfold consG seqS at e
      dsimp only at e
      cases ea : a d s with
      | nx s1 => rw [ea] at e; exact (h2.cs _ _ _ e).trans (h1.cs _ _ _ ea)
      | _ => rw [ea] at e; cases e⟩
def unpG (n : Nat) (m : List Dat → MS) : Dat → MS := fun d => match d with
  | .tup ds => if ds.length = n then m ds else fun _ => .stuck
  | .lst ds => if ds.length = n then m ds else fun _ => .stuck
  | _ => fun _ => .stuck
theorem ggc_tup {es : List Expr} {k n : Nat} {pos : Pos} {m : List Dat → MS} {vs : List Nat} (hc : X.calm = true) (h : GGs X es m vs) (hn : (assignEach es X.env).length = n) (hst : (assignEach es X.env).findIdx? (·.1) = none) : GGc X (.Tuple es k pos) (unpG n m) vs :=
  ⟨fun t => ⟨fun pins sh σ H v u Q I rv ⟨g, s, d, L, r, q⟩ => by
    cases r with
    | @tup a ws ds h1 r1 =>
      cases (show u = Value.ref a from rv)
      obtain ⟨its, rv, ht, hz⟩ := I.tuple (L.gr.sub.sqT h1)
      unfold unpG at q
      dsimp only at q
      by_cases z : ds.length = n
      case neg => rw [if_neg z] at q; exact q.elim
      rw [if_pos z] at q
      refine assign_Tuple_tuple (I.ok.hd hc) ht (by simp [hn, ← z, ← r1.length, rv.length]) hst fun h' hx => ?_
      have I1 : Inv X pins σ H { sh with heap := h' } := I.kept (t' := sh.toks) fun b o e => hx b o (Nat.ne_of_lt (Heap.lt_size e)) e
      exact (h.run t).run pins _ σ H ws _ Q I1 (by simpa using rv) ⟨g, s, ds, L, r1, q⟩
    | @lst a ws ds h1 r1 =>
      cases (show u = Value.ref a from rv)
      obtain ⟨its, rv, ht, hz⟩ := I.list (L.gr.sub.sqL h1)
      unfold unpG at q
      dsimp only at q
      by_cases z : ds.length = n
      case neg => rw [if_neg z] at q; exact q.elim
      rw [if_pos z] at q
      refine assign_Tuple_list (I.ok.hd hc) ht.isList (by simp [hn, ← z, ← r1.length, rv.length]) hst fun h' hx => ?_
      have I1 : Inv X pins σ H { sh with heap := h' } := I.kept (t' := sh.toks) fun b o e => hx b o (Nat.ne_of_lt (Heap.lt_size e)) e
      exact (h.run t).run pins _ σ H ws _ Q I1 (by simpa using rv) ⟨g, s, ds, L, r1, q⟩
    | _ => exact q.elim⟩, fun d s s' e => by
    unfold unpG at e
    split at e
    · split at e
      · exact h.cs _ _ _ e
      · cases e
    · split at e
      · exact h.cs _ _ _ e
      · cases e
    · cases e⟩
/-! ### what is walked -/
def itemsM (d : Dat) : M (List Dat) := match d with
  | .lst ds => pur ds
  | .tup ds => pur ds
  | .str z => pur (z.cps.toList.map fun c => .str ⟨#[c]⟩)
  | _ => fail
theorem jok_list {K : PySem.W.Frag} {t : Ent} {g0 : Gh} {a : Addr} {vs : List V} {ds : List Dat} (h : SqL K g0.P a vs) (r : RepsG K g0 vs ds) : JOk K t g0 (Itl K a) ds := fun i t g s σ H l L => by
  have hs : SqL K H a vs := L.gr.sub.sqL (l.p.sqL h)
  have hl := r.length
  have r' : RepsG K g vs ds := l.reps r
  refine ⟨fun hi => ?_, fun hi => ⟨vs, hs, by omega⟩, fun x H' d hd y => ?_⟩
  · exact ⟨vs, vs[i]'(by omega), hs, List.getElem?_eq_getElem _⟩
  · obtain ⟨rfl, hx⟩ := y
    obtain ⟨v, h1, h2⟩ := r'.get hd
    have := hx vs hs
    rw [h1] at this
    cases this
    exact ⟨g, EK.refl _ _ _, L, h2⟩
theorem jok_tup {K : PySem.W.Frag} {t : Ent} {g0 : Gh} {a : Addr} {vs : List V} {ds : List Dat} (h : SqT K g0.P a vs) (r : RepsG K g0 vs ds) : JOk K t g0 (Itt K a) ds := fun i t g s σ H l L => by
  have hs : SqT K H a vs := L.gr.sub.sqT (l.p.sqT h)
  have hl := r.length
  have r' : RepsG K g vs ds := l.reps r
  refine ⟨fun hi => ?_, fun hi => ⟨vs, hs, by omega⟩, fun x H' d hd y => ?_⟩
  · exact ⟨vs, vs[i]'(by omega), hs, List.getElem?_eq_getElem _⟩
  · obtain ⟨rfl, hx⟩ := y
    obtain ⟨v, h1, h2⟩ := r'.get hd
    have := hx vs hs
    rw [h1] at this
    cases this
    exact ⟨g, EK.refl _ _ _, L, h2⟩
theorem jok_str {K : PySem.W.Frag} {t : Ent} {g0 : Gh} {z : Str} : JOk K t g0 (Its z) (z.cps.toList.map fun c => .str ⟨#[c]⟩) := fun i t g s σ H l L => by
  refine ⟨fun hi => by show i < z.cps.size; simpa using hi, fun hi => by show z.cps.size ≤ i; simpa using hi, fun x H' d hd y => ?_⟩
  obtain ⟨rfl, c, h1, rfl⟩ := y
  rw [List.getElem?_map] at hd
  have : z.cps.toList[i]? = some c := by simpa using h1
  rw [this] at hd
  cases hd
  exact ⟨g, EK.refl _ _ _, L, .str _⟩
theorem gi_seq {tg e : Expr} {me : M Dat} (he : GE X e me) : GI X tg e (bnd me itemsM) := ⟨fun t W tk => ⟨fun pins sh σ H R I ⟨g, s, L, q⟩ => by
  refine he.seq (Post := fun v s1 => wpAny (model X.prog X.w) X.A (pyIter v) (PIE X pins σ tg R) X.xe s1) tk I L q fun u sh1 v g1 s1 H1 d I1 rv e1 L1 r1 q1 => ?_
  have fp : ∀ b ∈ [sh1.heap.objs.size], FpOk X pins H1 b := fun b hb => by
    have e : b = sh1.heap.objs.size := by simpa using hb
    subst e
    exact I1.fpOk (Nat.le_refl _) (I1.hok.fresh (Nat.le_refl _))
  cases r1 with
  | @lst a vs ds h r =>
    cases (show u = Value.ref a from rv)
    obtain ⟨its, rv, p, hz⟩ := I1.list (L1.gr.sub.sqL h)
    refine wpAny_pyIter_list p.isList ?_
    exact ⟨sh1.heap.objs.size, [sh1.heap.objs.size], _, Itl X.K a, H1, rfl, I1.kept (t' := sh1.toks) fun b o e => Heap.get?_push_of_some _ e, turn_list a _, ⟨_, Heap.get?_push_size _ rfl, rfl, rfl⟩, fp, q1 g1 _ H1 (EK.refl _ _ _) L1 (jok_list h r)⟩
  | @tup a vs ds h r =>
    cases (show u = Value.ref a from rv)
    obtain ⟨its, rv, p, hz⟩ := I1.tuple (L1.gr.sub.sqT h)
    refine wpAny_pyIter_tuple (show sh1.heap.IsTuple a its.toArray from p) ?_
    exact ⟨sh1.heap.objs.size, [sh1.heap.objs.size], _, Itt X.K a, H1, rfl, I1.kept (t' := sh1.toks) fun b o e => Heap.get?_push_of_some _ e, turn_tuple a _, ⟨_, Heap.get?_push_size _ rfl, rfl, rfl⟩, fp, q1 g1 _ H1 (EK.refl _ _ _) L1 (jok_tup h r)⟩
  | str z =>
    obtain ⟨tz, rfl⟩ := rv
    have q' : R (Its z) H1 := q1 g1 _ H1 (EK.refl _ _ _) L1 jok_str
    cases ha : z.cps.all (· < 128)
    · exact wpAny_pyIter_wide ha (pi_one (tk := sh1.toks) I1 _ (turn_str _ z tz "str_iterator" (.inr rfl)) ⟨_, Heap.get?_push_size _ rfl, rfl, rfl⟩ q')
    · exact wpAny_pyIter_ascii ha (pi_one (tk := sh1.toks) I1 _ (turn_str _ z tz "str_ascii_iterator" (.inl rfl)) ⟨_, Heap.get?_push_size _ rfl, rfl, rfl⟩ q')
  | _ => exact q1.elim⟩⟩
/-- lo, lo + 1, .. (n of them) -/
def rngD (lo : Int) (n : Nat) : List Dat := (List.range n).map fun (i : Nat) => Dat.int (lo + (i : Int))
def rangeM (ds : List Dat) : M (List Dat) := match ds with
  | [.int j] => if -(2 ^ 62) ≤ j ∧ j < 2 ^ 62 then pur (rngD 0 j.toNat) else fail
  | [.int i, .int j] => if (-(2 ^ 62) ≤ i ∧ i < 2 ^ 62) ∧ -(2 ^ 62) ≤ j ∧ j < 2 ^ 62 then pur (rngD i (j - i).toNat) else fail
  | _ => fail
theorem jok_rng {K : PySem.W.Frag} {t : Ent} {g0 : Gh} {lo : Int} {n : Nat} : JOk K t g0 (Itr lo n) (rngD lo n) := fun i t g s σ H l L => by
  refine ⟨fun hi => by show i < n; simpa [rngD] using hi, fun hi => by show n ≤ i; simpa [rngD] using hi, fun x H' d hd y => ?_⟩
  obtain ⟨rfl, rfl⟩ := y
  unfold rngD at hd
  rw [List.getElem?_map] at hd
  cases e : (List.range n)[i]? with
  | none => rw [e] at hd; cases hd
  | some j =>
    rw [e] at hd
    cases hd
    have := (List.getElem?_eq_some_iff.mp e).2
    simp at this
    subst this
    exact ⟨g, EK.refl _ _ _, L, .int _⟩
theorem gi_range {tg : Expr} {es : List Expr} {ma : M (List Dat)} {p pos : Pos} (hg : Gl X "range") (hm : X.mg "range" = none) (ha : GA X es ma) (hs : noStar es = true) (hl : es.length = 1 ∨ es.length = 2) : GI X tg (.Call (.Name "range" p) es [] pos) (bnd ma rangeM) := ⟨fun t W tk => ⟨fun pins sh σ H R I ⟨g, s, L, q⟩ => by
  match es, hl, ha, hs with
  | e :: es, hl, ha, hs =>
    obtain ⟨h1, h2⟩ := star_cons (env := X.env) hs
    refine Call_ (ld_blt I hg hm boot_range (PyProof.Rows.callWith_type1 (ha.seq tk pos I L q fun us sh1 vs g1 s1 H1 ds I1 rv e1 L1 r1 q1 => ?_) h1 (star_any h2)))
    unfold rangeM at q1
    split at q1
    · rename_i j
      cases r1 with
      | cons ra rb =>
        cases ra
        cases rb
        cases rv with
        | cons ru rr =>
          cases rr
          by_cases z : -(2 ^ 62) ≤ j ∧ j < 2 ^ 62
          · rw [if_pos z] at q1
            obtain ⟨tj, rfl⟩ := ru
            exact call_range_1 (range_it I1 (by omega) (by omega) z.1 z.2 (by simpa using q1 g1 (Itr 0 j.toNat) H1 (EK.refl _ _ _) L1 jok_rng))
          · rw [if_neg z] at q1; exact q1.elim
    · rename_i i j
      cases r1 with
      | cons ra rb =>
        cases ra
        cases rb with
        | cons rc rd =>
          cases rc
          cases rd
          cases rv with
          | cons ru rr =>
            cases rr with
            | cons rw' rr =>
              cases rr
              by_cases z : (-(2 ^ 62) ≤ i ∧ i < 2 ^ 62) ∧ -(2 ^ 62) ≤ j ∧ j < 2 ^ 62
              · rw [if_pos z] at q1
                obtain ⟨tj, rfl⟩ := ru
                obtain ⟨tk', rfl⟩ := rw'
                exact call_range_2 (range_it I1 z.1.1 z.1.2 z.2.1 z.2.2 (q1 g1 (Itr i (j - i).toNat) H1 (EK.refl _ _ _) L1 jok_rng))
              · rw [if_neg z] at q1; exact q1.elim
    · exact q1.elim
  | [], hl, _, _ => simp at hl⟩⟩
end
end Zw

namespace Zw
open PySem L2 PyProof.Rows PySem.Spec ClX

/-! ### o.m(..) -/
def notSuper : Expr → Bool
  | .Call (.Name _ _) [] [] _ => false
  | _ => true
theorem base_of {o : Expr} {m : Str} {env : Env} (h : notSuper o = true) : attributeBase o m env (eval o env) = eval o env := by
  unfold attributeBase
  split
  · cases h
  · rfl
theorem form_of {es : List Expr} {pos : Pos} {env : Env} (hs : noStar es = true) (hl : es.length < 30) : methodCallForm (es.length + ([] : List Keyword).length) (backTo pos (starEach es env)) (backToKw pos (keywordEach [] env)) = true := by
  have h1 : ∀ {es : List Expr}, noStar es = true → (backTo pos (starEach es env)).all (!·.1) = true := fun {es} => by
    induction es with
    | nil => intro _; rfl
    | cons e es ih =>
      intro h
      obtain ⟨h1, h2⟩ := star_cons (env := env) h
      rw [h1]
      show (!false && (backTo pos (starEach es env)).all (!·.1)) = true
      rw [ih h2]; rfl
  unfold methodCallForm
  rw [h1 hs]
  show (true && true && decide (es.length + 0 + 0 < 30)) = true
  simpa using hl
theorem meth_eq {o : Expr} {m : Str} {es : List Expr} {apos pos : Pos} {env : Env} (hb : notSuper o = true) (hs : noStar es = true) (hl : es.length < 30) (hline : (apos.endLine == pos.line) = true) :
    eval (.Call (.Attribute o m apos) es [] pos) env = (do
      let ov ← eval o env
      standAt apos.atName
      let (f, first) ← holding [ov] (getMethod ov m (do return (← importBound o env).getD true))
      callWith pos f first (backTo pos (starEach es env)) (backToKw pos (keywordEach [] env))) := by
  rw [arm_eval_Call, base_of hb]
  unfold methodCall
  rw [form_of hs hl]
  have hp : methodCallPos true o env apos pos = pure pos := by unfold methodCallPos; simp [hline]
  simp only [calleeOf, if_true, hp, pure_bind]
abbrev MRule := Dat → Option (List Dat → M Dat)
structure MV (X : Cx) (m : Str) (es : List Expr) (ma : M (List Dat)) (r : MRule) : Prop where
  run : ∀ t W, TakesE X t W → ∀ (pins : List (Addr × Obj)) (sh : Shared) (σ : L2.St) (H : Hp) (g : Gh) (s : Sto) (u : Value) (v : V) (d : Dat) (mf : List Dat → M Dat) (Q : VK) (pos : Pos) (pl : Sem Bool), r d = some mf → Inv X pins σ H sh → RelV v u → LRel X.K t g s σ H → RepG X.K g v d → atE X.K t W g s σ H (bnd ma mf s) Q →
    wpAny (model X.prog X.w) X.A (getMethod u m pl) (fun fx s2 => wpAny (model X.prog X.w) X.A (callWith pos fx.1 fx.2 (backTo pos (starEach es X.env)) []) (EP X pins σ Q) X.xe s2) X.xe sh
def orM (r r' : MRule) : MRule := fun d => match r d with
  | some m => some m
  | none => r' d
section
variable {X : Cx} {E : En} {k : Nat}
theorem MV.or {m : Str} {es : List Expr} {ma : M (List Dat)} {r r' : MRule} (h : MV X m es ma r) (h' : MV X m es ma r') : MV X m es ma (orM r r') := ⟨fun t W tk pins sh σ H g s u v d mf Q pos pl e I rv L rp q => by
  unfold orM at e
  cases e1 : r d with
  | some m1 => rw [e1] at e; cases e; exact h.run t W tk pins sh σ H g s u v d mf Q pos pl e1 I rv L rp q
  | none => rw [e1] at e; exact h'.run t W tk pins sh σ H g s u v d mf Q pos pl e I rv L rp q⟩
theorem ge_meth {o : Expr} {m : Str} {es : List Expr} {apos pos : Pos} {mo : M Dat} {ma : M (List Dat)} {r : MRule} (ho : GE X o mo) (hv : MV X m es ma r) (hb : notSuper o = true) (hs : noStar es = true) (hl : es.length < 30) (hline : (apos.endLine == pos.line) = true) :
    GE X (.Call (.Attribute o m apos) es [] pos) (bnd mo fun x => gate (r x) fun mf => bnd ma mf) :=
  GE.of fun t W tk pins sh σ H g s Q I L q => PySem.W.methodCall_KW (ho.seq tk I L q fun u sh1 v g1 s1 H1 d I1 rv e1 L1 r1 q1 => by
    unfold gate at q1
    cases e : r d with
    | none => rw [e] at q1; exact q1.elim
    | some mf => rw [e] at q1; exact hv.run t W tk pins sh1 σ H1 g1 s1 u v d mf Q pos _ e I1 rv L1 r1 q1) (meth_eq hb hs hl hline)
/-- a method of an own class -/
def En.mIns (E : En) (m : Str) : MRule := fun x => (E.methI x m).map fun q => fun ds => E.call q (x :: ds)
theorem mv_ins {m : Str} {es : List Expr} {ma : M (List Dat)} (N : EnOk (md X) k E) (hr : Room k X.A) (hz : es = [] → ma = nilA) (hs : noStar es = true) (ha : GA X es ma) : MV X m es ma (E.mIns m) := ⟨fun t W tk pins sh σ H g s u v d mf Q pos pl e I rv L rp q => by
  obtain ⟨qn, e1, e2⟩ := Option.map_eq_some_iff.mp e
  subst e2
  cases rp with
  | @ins a dx c fs ds h kk r =>
    obtain rfl : u = Value.ref a := rv
    have ha' : H a = some (.ins (He.ga X.K c) dx fs) := L.gr.sub.at_ h rfl
    unfold En.methI at e1
    dsimp only at e1
    cases ea : E.att c m with
    | none => rw [ea] at e1; cases e1
    | some at_ =>
      rw [ea] at e1
      obtain ⟨ci, z1, z2⟩ := En.att_some ea
      have A := (N.cl c ci z1).att m at_ z2
      cases at_ with
      | meth q' =>
        dsimp only at e1
        by_cases hl : (ds.lookup m).isNone = true
        case neg => rw [if_neg hl] at e1; cases e1
        rw [if_pos hl] at e1
        cases e1
        obtain ⟨fi, y1, y2⟩ := A
        have ln := (lookup_rep (f := m) kk r).2 (Option.isNone_iff_eq_none.mp hl)
        refine getmeth_ok I ha' (N.cl c ci z1).cls y2 ln (callW (first := [.ref a]) tk I L y2.kp hz hs ha q fun us sh2 vs g2 s2 H2 es' I2 rv2 e2 L2 r2 q2 => ?_)
        unfold En.call at q2
        rw [y1] at q2
        exact vop_fi (N.fn _ fi y1) hr t W tk pins sh2 σ H2 g2 s2 (.ref a :: vs) (.ref a :: us) (Dat.ins c ds :: es') Q I2 (.cons rfl rv2) L2 (.cons (e2.le.rep (.ins h kk r)) r2) q2
      | _ => cases e1
  | _ => cases e1⟩
/-- a static or class method by its class -/
def En.mCls (E : En) (m : Str) : MRule := fun x => (E.methC x m).map fun q => fun ds => E.call q.1 (if q.2 = true then x :: ds else ds)
theorem mv_cls {m : Str} {es : List Expr} {ma : M (List Dat)} (N : EnOk (md X) k E) (hr : Room k X.A) (hz : es = [] → ma = nilA) (hs : noStar es = true) (ha : GA X es ma) : MV X m es ma (E.mCls m) := ⟨fun t W tk pins sh σ H g s u v d mf Q pos pl e I rv L rp q => by
  obtain ⟨qn, e1, e2⟩ := Option.map_eq_some_iff.mp e
  subst e2
  cases rp with
  | cls c =>
    obtain rfl : u = Value.ref (He.ga X.K c) := rv
    unfold En.methC at e1
    dsimp only at e1
    cases ea : E.att c m with
    | none => rw [ea] at e1; cases e1
    | some at_ =>
      rw [ea] at e1
      obtain ⟨ci, z1, z2⟩ := En.att_some ea
      have A := (N.cl c ci z1).att m at_ z2
      cases at_ with
      | stat qs =>
        cases e1
        obtain ⟨fi, p, mc, rest, y1, y2, y3, y4⟩ := A
        have q1 : atE X.K t W g s σ H (bnd ma (fun ds' => E.call qs ds') s) Q := q
        have F := N.fn qs fi y1
        have kp : PySem.W.keepIn X.K (.ref (fi.adr X.K)) = true := (F.2 fi.par (Nat.sub_le _ _) (Nat.le_refl _)).kp
        refine getmeth_sm I y2 y3 y4 fun sh' I1' => callW (first := []) tk I1' L kp hz hs ha q1 fun us sh2 vs g2 s2 H2 es' I2 rv2 e2 L2 r2 q2 => ?_
        unfold En.call at q2
        rw [y1] at q2
        exact vop_fi F hr t W tk pins sh2 σ H2 g2 s2 vs us es' Q I2 rv2 L2 r2 q2
      | clsm qc =>
        cases e1
        obtain ⟨fi, p, mc, y1, y2, y3⟩ := A
        have q1 : atE X.K t W g s σ H (bnd ma (fun ds' => E.call qc (Dat.cls c :: ds')) s) Q := q
        have F := N.fn qc fi y1
        refine getmethcm_ok I y2 y3 fun sh' I1' => ?_
        have fin : ∀ us sh2 vs g2 s2 H2 es', Inv X ((sh.heap.objs.size, PySem.W.methodObj (.ref (fi.adr X.K)) (.ref (He.ga X.K c))) :: pins) σ H2 sh2 → Vals vs us → EK [] g s.cs H g2 s2.cs H2 → LRel X.K t g2 s2 σ H2 → RepsG X.K g2 vs es' → atE X.K t W g2 s2 σ H2 (E.call qc (Dat.cls c :: es') s2) Q →
            wpAny (model X.prog X.w) X.A (call (.ref sh.heap.objs.size) us) (EP X pins σ Q) X.xe sh2 := fun us sh2 vs g2 s2 H2 es' I2 rv2 e2 L2 r2 q2 => by
          unfold En.call at q2
          rw [y1] at q2
          exact thn (wpAny_call (PySem.W.method_call (pin_at I2) (code_fi F hr tk I2 (xs := .ref (He.ga X.K c) :: vs) (us := .ref (He.ga X.K c) :: us) (.cons rfl rv2) L2 (ds := Dat.cls c :: es') (.cons (.cls c) r2) q2))) fun _ _ y => unpinE y
        cases es with
        | nil =>
          obtain rfl := hz rfl
          exact PySem.W.callWith_M0 ⟨pin_at I1', I1'.kIn⟩ y3.fi (fin [] sh' [] g s H [] I1' .nil (EK.refl _ _ _) L .nil q1)
        | cons e es =>
          obtain ⟨h1, h2⟩ := star_cons (env := X.env) hs
          exact callwith_cm I1' (base_none I (Nat.le_refl _)) y3.fi (ha.seq tk pos I1' L q1 fun us sh2 vs g2 s2 H2 ds I2 rv2 e2 L2 r2 q2 => ⟨⟨pin_at I2, I2.kIn⟩, fin us sh2 vs g2 s2 H2 ds I2 rv2 e2 L2 r2 q2⟩) h1 (star_any h2)
      | _ => cases e1
  | _ => cases e1⟩
/-- a method of a text -/
theorem mv_str {m : Str} {id : String} {es : List Expr} {ma : M (List Dat)} {r : Str → Rule} (slot : PySem.Slot "str" m id) (pa : PlainAttrs "str") (hty : typeOf (.builtin id) = pure (.type "method_descriptor"))
    (hm : ∀ (t : Ent) (W : WX), TakesE X t W → ∀ (pins : List (Addr × Obj)) (sh : Shared) (σ : L2.St) (H : Hp) (g : Gh) (s : Sto) (z : Str) (tz : Tok) (xs : List V) (us : List Value) (ds : List Dat) (mm : M Dat) (Q : VK), r z ds = some mm → Inv X pins σ H sh → Vals xs us → LRel X.K t g s σ H → RepsG X.K g xs ds → atE X.K t W g s σ H (mm s) Q → wpAny (model X.prog X.w) X.A (call (.builtin id) (.str z tz :: us)) (EP X pins σ Q) X.xe sh)
    (hz : es = [] → ma = nilA) (hs : noStar es = true) (ha : GA X es ma) : MV X m es ma (fun d => match d with | .str z => some (runR (r z)) | _ => none) := ⟨fun t W tk pins sh σ H g s u v d mf Q pos pl e I rv L rp q => by
  cases rp with
  | str z =>
    obtain ⟨tz, rfl⟩ := rv
    cases e
    refine getMethod_builtin (typeIs_str sh z tz) pa slot hty (fun _ e => nomatch e) ?_
    have fin : ∀ us sh2 vs g2 s2 H2 ds, Inv X pins σ H2 sh2 → Vals vs us → LRel X.K t g2 s2 σ H2 → RepsG X.K g2 vs ds → atE X.K t W g2 s2 σ H2 (runR (r z) ds s2) Q → wpAny (model X.prog X.w) X.A (call (.builtin id) (.str z tz :: us)) (EP X pins σ Q) X.xe sh2 := fun us sh2 vs g2 s2 H2 ds I2 rv2 L2 r2 q2 => by
      unfold runR at q2
      cases em : r z ds with
      | none => rw [em] at q2; exact q2.elim
      | some mm => rw [em] at q2; exact hm t W tk pins sh2 σ H2 g2 s2 z tz vs us ds mm Q em I2 rv2 L2 r2 q2
    cases es with
    | nil =>
      obtain rfl := hz rfl
      exact Calls.callWith_builtin rfl (PySem.evalArgs_none (fin [] sh [] g s H [] I .nil L .nil q))
    | cons e es =>
      obtain ⟨h1, h2⟩ := star_cons (env := X.env) hs
      have hA := ha.seq (Post := fun us sh2 => wpAny (model X.prog X.w) X.A (call (.builtin id) (.str z tz :: us)) (EP X pins σ Q) X.xe sh2) tk pos I L q fun us sh2 vs g2 s2 H2 ds I2 rv2 e2 L2 r2 q2 => fin us sh2 vs g2 s2 H2 ds I2 rv2 L2 r2 q2
      rw [h1] at hA ⊢
      exact Calls.callWith_builtin (by show (false || (backTo pos (starEach es X.env)).any (·.1)) = false; rw [star_any h2]; rfl) (Calls.evalArgs_plain hA)
  | _ => cases e⟩
def strsD (ys : List Str) : Dat := .lst (ys.map .str)
theorem reps_strs {K : PySem.W.Frag} {g : Gh} : ∀ {ys : List Str}, RepsG K g (ys.map V.str) (ys.map .str)
  | [] => .nil
  | _ :: ys => .cons (.str _) (reps_strs (ys := ys))
def rSplit (z : Str) : Rule := fun ds => match ds with
  | [.str b] => if (b.length == 0) = false ∧ z.length + 2 ≤ sizeLine then some (pur (strsD (Txt.split z b))) else none
  | _ => none
theorem mv_split {es : List Expr} {ma : M (List Dat)} (hz : es = [] → ma = nilA) (hs : noStar es = true) (ha : GA X es ma) : MV X "split" es ma (fun d => match d with | .str z => some (runR (rSplit z)) | _ => none) :=
  mv_str (id := "str.split") F.slot_str_split F.plainAttrs_str F.type_str_split (fun t W tk pins sh σ H g s z tz xs us ds mm Q e I rv L rp q => by
    unfold rSplit at e
    split at e
    · rename_i b
      cases rp with
      | cons ra rb =>
        cases rb
        cases ra
        by_cases hc : (b.length == 0) = false ∧ z.length + 2 ≤ sizeLine
        · rw [if_pos hc] at e; cases e
          exact mt_split pins sh σ H (.str z) [.str b] (.str z tz) us Q I ⟨tz, rfl⟩ rv ⟨z, b, rfl, rfl, hc.1, hc.2, fun p hp => at_new L q hp fun g' l' h => .lst (.inl (.inl h)) reps_strs⟩
        · rw [if_neg hc] at e; cases e
    · cases e) hz hs ha
end
end Zw

namespace Zw
open PySem L2 PyProof.Rows PySem.Spec ClX

section
variable {K : PySem.W.Frag} {t : Ent} {g : Gh} {s : Sto} {σ : L2.St} {H : Hp}
/-- what stands at an address is changed, by the one who holds it -/
theorem LRel.alter {a : Addr} {o : HO} {s' : Sto} (L : LRel K t g s σ H) (hP : g.P a = none) (hH : ∃ u, H a = some u) (he : s'.env.length = s.env.length) (hc : s'.cs.length = s.cs.length)
    (hex : ∀ u, t.H a = some u → Live t.g t.cs a ∨ a ∈ t.x) (hlv : ∀ b, Live g s'.cs b → Live g s.cs b)
    (hcell : ∀ (n : Nat) (d : Dat) (b : Addr), s'.cs[n]? = some (some d) → g.io[n]? = some b → (b = a → CellOk K g (upd H a o) a d) ∧ (b ≠ a → s.cs[n]? = some (some d)))
    (hval : ∀ (i : Nat) (d : Dat), s'.env[i]? = some (.val d) → s.env[i]? = some (.val d))
    (hown : ∀ (i : Nat) (d : Dat), s'.env[i]? = some (.own d) → ∃ d0, s.env[i]? = some (.own d0) ∧ (σ[i]? = some (some (.ref a)) → CellOk K g (upd H a o) a d) ∧ (σ[i]? ≠ some (some (.ref a)) → d = d0))
    (hslf : ∀ (i : Nat) (d : Dat), s'.env[i]? = some (.slf d) → ∃ d0, s.env[i]? = some (.slf d0) ∧ (σ[i]? = some (some (.ref a)) → CellOk K g (upd H a o) a d) ∧ (σ[i]? ≠ some (some (.ref a)) → d = d0)) (hlam : ∀ (i : Nat) (c : LCon), s'.env[i]? = some (.lam c) → s.env[i]? = some (.lam c)) :
    LRel K t g s' σ (upd H a o) := by
  have ne : ∀ {b : Addr} {u : HO}, b ≠ a → H b = some u → (upd H a o) b = some u := fun n e => by rw [upd_ne n]; exact e
  have cne : ∀ {b : Addr} {d : Dat}, b ≠ a → CellOk K g H b d → CellOk K g (upd H a o) b d := fun n c => c.mono (GLe.refl _) fun u e => ne n e
  refine ⟨L.xin, ⟨fun b u e => ?_, by rw [L.gr.len, hc], L.gr.nd, fun b z => ?_, fun n d b e1 e2 => ?_⟩, ⟨⟨L.ex.le, fun b u e n nx => ?_, fun b u e => ?_, L.ex.new, fun b z => L.ex.live b (hlv b z)⟩, L.ex.pure⟩, by rw [he]; exact L.len, fun i d e => L.val i d (hval i d e), fun i d e => ?_, fun i d e => ?_, fun i j b d e z1 z2 z3 z4 => ?_, fun i j d e z1 z2 => ?_, fun i c e => L.lam i c (hlam i c e)⟩
  · have n : b ≠ a := fun z => by subst z; rw [hP] at e; cases e
    rcases L.gr.sub b u e with q | ⟨q, o', q'⟩
    · exact .inl (ne n q)
    · exact .inr ⟨q, o', ne n q'⟩
  · obtain ⟨u, h⟩ := L.gr.dom b z
    by_cases q : b = a
    · subst q; exact ⟨o, upd_same⟩
    · exact ⟨u, ne q h⟩
  · obtain ⟨h1, h2⟩ := hcell n d b e1 e2
    by_cases q : b = a
    · subst q; exact ⟨hP, h1 rfl⟩
    · obtain ⟨p1, p2⟩ := L.gr.cell n d b (h2 q) e2
      exact ⟨p1, cne q p2⟩
  · by_cases q : b = a
    · subst q
      rcases hex u e with z | z
      · exact absurd z n
      · exact absurd z nx
    · exact ne q (L.ex.keep b u e n nx)
  · by_cases q : b = a
    · subst q; exact ⟨o, upd_same⟩
    · obtain ⟨u', h⟩ := L.ex.there b u e
      exact ⟨u', ne q h⟩
  · obtain ⟨d0, h1, h2, h3⟩ := hown i d e
    obtain ⟨b, k1, k2, k3, k4, k5⟩ := L.own i d0 h1
    refine ⟨b, k1, ?_, k3, k4, k5⟩
    by_cases q : b = a
    · subst q; exact h2 k1
    · rw [h3 (fun z => q (by rw [k1] at z; cases z; rfl))]; exact cne q k2
  · obtain ⟨d0, h1, h2, h3⟩ := hslf i d e
    obtain ⟨b, k1, k2, k3, k4, k5⟩ := L.slf i d0 h1
    refine ⟨b, k1, ?_, k3, k4, k5⟩
    by_cases q : b = a
    · subst q; exact h2 k1
    · rw [h3 (fun z => q (by rw [k1] at z; cases z; rfl))]; exact cne q k2
  · obtain ⟨d0, h1, _⟩ := hown i d z1
    obtain ⟨e0, h2, _⟩ := hown j e z2
    exact L.dst i j b d0 e0 h1 h2 z3 z4
  · obtain ⟨d0, h1, _⟩ := hslf i d z1
    obtain ⟨e0, h2, _⟩ := hslf j e z2
    exact L.one i j d0 e0 h1 h2
/-- a cell's content changes -/
theorem LRel.setCell {n : Nat} {a : Addr} {d0 d : Dat} {o : HO} (L : LRel K t g s σ H) (hc : s.cs[n]? = some (some d0)) (hi : g.io[n]? = some a) (ok : CellOk K g (upd H a o) a d) : LRel K t g ⟨s.env, s.cs.set n (some d)⟩ σ (upd H a o) := by
  obtain ⟨p1, p2⟩ := L.gr.cell n d0 a hc hi
  have inj : ∀ (m : Nat), g.io[m]? = some a → m = n := fun m h => by
    obtain ⟨h1, h2⟩ := List.getElem?_eq_some_iff.mp h
    obtain ⟨h3, h4⟩ := List.getElem?_eq_some_iff.mp hi
    exact (List.getElem_inj L.gr.nd).mp (h2.trans h4.symm)
  have lva : Live g s.cs a := ⟨n, d0, hc, hi⟩
  refine L.alter p1 p2.there rfl (by simp) (fun u e => ?_) (fun b z => ?_) (fun m d' b e1 e2 => ?_) (fun i d e => e) (fun i d' e => ?_) (fun i d' e => ?_) (fun i c e => e)
  · rcases L.ex.live a lva with z | z
    · exact .inl z
    · rw [e] at z; cases z
  · obtain ⟨m, d', h1, h2⟩ := z
    rcases set_at h1 with ⟨rfl, _⟩ | ⟨_, h3⟩
    · rw [hi] at h2; cases h2; exact lva
    · exact ⟨m, d', h3, h2⟩
  · rcases set_at e1 with ⟨rfl, z⟩ | ⟨nm, z⟩
    · cases z
      rw [hi] at e2; cases e2
      exact ⟨fun _ => ok, fun q => absurd rfl q⟩
    · exact ⟨fun q => by subst q; exact absurd (inj m e2) nm, fun _ => z⟩
  · obtain ⟨b, k1, k2, k3, k4, k5⟩ := L.own i d' e
    refine ⟨d', e, fun q => ?_, fun _ => rfl⟩
    rw [q] at k1; cases k1
    exact absurd (live_in lva) k5
  · obtain ⟨b, k1, k2, k3, k4, k5⟩ := L.slf i d' e
    refine ⟨d', e, fun q => ?_, fun _ => rfl⟩
    rw [q] at k1; cases k1
    exact absurd (live_in lva) k5
/-- what the frame alone holds changes -/
theorem LRel.setOwn {i : Nat} {a : Addr} {d0 d : Dat} {o : HO} (L : LRel K t g s σ H) (hi : s.env[i]? = some (.own d0)) (hs : σ[i]? = some (some (.ref a))) (ok : CellOk K g (upd H a o) a d) : LRel K t g ⟨s.env.set i (.own d), s.cs⟩ σ (upd H a o) := by
  obtain ⟨b, k1, k2, k3, k4, k5⟩ := L.own i d0 hi
  rw [hs] at k1; cases k1
  refine L.alter k3 k2.there (by simp) rfl (fun u e => ?_) (fun b z => z) (fun m d' b e1 e2 => ⟨fun q => by subst q; exact absurd (List.mem_of_getElem? e2) k5, fun _ => e1⟩) (fun j d' e => ?_) (fun j d' e => ?_) (fun j d' e => ?_) (fun j c e => (set_at e).elim (fun z => by cases z.2) fun z => z.2)
  · rw [k4] at e; cases e
  · rcases set_at e with ⟨_, z⟩ | ⟨_, z⟩
    · cases z
    · exact z
  · rcases set_at e with ⟨rfl, z⟩ | ⟨n, z⟩
    · cases z; exact ⟨d0, hi, fun _ => ok, fun q => absurd hs q⟩
    · exact ⟨d', z, fun q => absurd (L.dst j i a d' d0 z hi q hs) n, fun _ => rfl⟩
  · rcases set_at e with ⟨_, z⟩ | ⟨n, z⟩
    · cases z
    · refine ⟨d', z, fun q => ?_, fun _ => rfl⟩
      obtain ⟨b, m1, m2, m3, ⟨m4, u, m6⟩, m5⟩ := L.slf j d' z
      rw [q] at m1; cases m1
      rw [k4] at m6; cases m6
/-- the object of an __init__ changes -/
theorem LRel.setSlf {i : Nat} {a : Addr} {d0 d : Dat} {o : HO} (L : LRel K t g s σ H) (hi : s.env[i]? = some (.slf d0)) (hs : σ[i]? = some (some (.ref a))) (ok : CellOk K g (upd H a o) a d) : LRel K t g ⟨s.env.set i (.slf d), s.cs⟩ σ (upd H a o) := by
  obtain ⟨b, k1, k2, k3, ⟨k4, u0, k6⟩, k5⟩ := L.slf i d0 hi
  rw [hs] at k1; cases k1
  refine L.alter k3 k2.there (by simp) rfl (fun u e => .inr k4) (fun b z => z) (fun m d' b e1 e2 => ⟨fun q => by subst q; exact absurd (List.mem_of_getElem? e2) k5, fun _ => e1⟩) (fun j d' e => ?_) (fun j d' e => ?_) (fun j d' e => ?_) (fun j c e => (set_at e).elim (fun z => by cases z.2) fun z => z.2)
  · rcases set_at e with ⟨_, z⟩ | ⟨_, z⟩
    · cases z
    · exact z
  · rcases set_at e with ⟨_, z⟩ | ⟨n, z⟩
    · cases z
    · refine ⟨d', z, fun q => ?_, fun _ => rfl⟩
      obtain ⟨b, m1, m2, m3, m4, m5⟩ := L.own j d' z
      rw [q] at m1; cases m1
      rw [k6] at m4; cases m4
  · rcases set_at e with ⟨rfl, z⟩ | ⟨n, z⟩
    · cases z; exact ⟨d0, hi, fun _ => ok, fun q => absurd hs q⟩
    · exact absurd (L.one j i d' d0 z hi) n
/-- a new cell -/
theorem LRel.cell {a : Addr} {o : HO} {d : Dat} (L : LRel K t g s σ H) (n : H a = none) (ok : ∀ g' : Gh, GLe g g' → CellOk K g' (upd H a o) a d) : LRel K t ⟨g.P, g.io ++ [a]⟩ ⟨s.env, s.cs ++ [some d]⟩ σ (upd H a o) ∧ EK [] g s.cs H ⟨g.P, g.io ++ [a]⟩ (s.cs ++ [some d]) (upd H a o) := by
  have le : GLe g ⟨g.P, g.io ++ [a]⟩ := ⟨Le.refl _, List.prefix_append _ _⟩
  have hk : ∀ {b : Addr} {u : HO}, H b = some u → (upd H a o) b = some u := fun {b u} e => by rw [upd_ne (ne_of_none e n)]; exact e
  have nP : g.P a = none := by
    cases z : g.P a with
    | none => rfl
    | some u => rcases L.gr.sub a u z with q | ⟨_, o', q⟩ <;> (rw [n] at q; cases q)
  have nI : ¬ a ∈ g.io := fun z => by
    obtain ⟨u, h⟩ := L.gr.dom a z
    rw [n] at h; cases h
  have mem : ∀ {b : Addr}, b ∈ g.io ++ [a] → b ∈ g.io ∨ b = a := fun {b} z => by
    rcases List.mem_append.mp z with q | q
    · exact .inl q
    · exact .inr (by simpa using q)
  have lv : ∀ {b : Addr}, Live ⟨g.P, g.io ++ [a]⟩ (s.cs ++ [some d]) b → Live g s.cs b ∨ b = a := fun {b} z => by
    obtain ⟨m, d', h1, h2⟩ := z
    by_cases q : m < s.cs.length
    · rw [List.getElem?_append_left q] at h1
      have h2 : (g.io ++ [a])[m]? = some b := h2
      rw [List.getElem?_append_left (by rw [L.gr.len]; exact q)] at h2
      exact .inl ⟨m, d', h1, h2⟩
    · have h2 : (g.io ++ [a])[m]? = some b := h2
      rw [List.getElem?_append_right (by rw [L.gr.len]; omega)] at h2
      exact .inr (by
        have := List.mem_of_getElem? h2
        simpa using this)
  have ek : EK [] g s.cs H ⟨g.P, g.io ++ [a]⟩ (s.cs ++ [some d]) (upd H a o) := ⟨le, fun b u e _ _ => hk e, fun b u e => ⟨u, hk e⟩, fun b z => (mem z).imp id (fun q => by subst q; exact n), fun b z => (lv z).imp id (fun q => by subst q; exact n)⟩
  have tn : t.H a = none := L.ex.toEK.free n
  refine ⟨⟨L.xin, ⟨fun b u e => ?_, by simp [L.gr.len], ?_, fun b z => ?_, fun m d' b e1 e2 => ?_⟩, ⟨L.ex.toEK.trans ek.weak, fun b u e => L.ex.pure b u e⟩, L.len, fun i d' e => ?_, fun i d' e => ?_, fun i d' e => ?_, L.dst, L.one, L.lam⟩, ek⟩
  · rcases L.gr.sub b u e with q | ⟨q, o', q'⟩
    · exact .inl (hk q)
    · exact .inr ⟨q, o', hk q'⟩
  · show (g.io ++ [a]).Nodup
    rw [List.nodup_append]
    refine ⟨L.gr.nd, by simp, fun x hx y hy => ?_⟩
    have : y = a := by simpa using hy
    subst this
    exact fun z => nI (z ▸ hx)
  · rcases mem z with q | q
    · obtain ⟨u, h⟩ := L.gr.dom b q
      exact ⟨u, hk h⟩
    · subst q; exact ⟨o, upd_same⟩
  · by_cases q : m < s.cs.length
    · have e1 : (s.cs ++ [some d])[m]? = some (some d') := e1
      rw [List.getElem?_append_left q] at e1
      have e2 : (g.io ++ [a])[m]? = some b := e2
      rw [List.getElem?_append_left (by rw [L.gr.len]; exact q)] at e2
      obtain ⟨p1, p2⟩ := L.gr.cell m d' b e1 e2
      exact ⟨p1, p2.mono le fun _ z => hk z⟩
    · have e1 : (s.cs ++ [some d])[m]? = some (some d') := e1
      rw [List.getElem?_append_right (by omega)] at e1
      have e2 : (g.io ++ [a])[m]? = some b := e2
      rw [List.getElem?_append_right (by rw [L.gr.len]; omega)] at e2
      have hb : b = a := by simpa using List.mem_of_getElem? e2
      have hd : some d' = some d := by simpa using List.mem_of_getElem? e1
      cases hd
      subst hb
      exact ⟨nP, ok _ le⟩
  · obtain ⟨v, h1, h2⟩ := L.val i d' e
    exact ⟨v, h1, le.rep h2⟩
  · obtain ⟨b, h1, h2, h3, h4, h5⟩ := L.own i d' e
    have nb : b ≠ a := fun z => by subst z; obtain ⟨u, hu⟩ := h2.there; rw [n] at hu; cases hu
    exact ⟨b, h1, h2.mono le fun _ z => hk z, h3, h4, fun z => (mem z).elim h5 nb⟩
  · obtain ⟨b, h1, h2, h3, h4, h5⟩ := L.slf i d' e
    have nb : b ≠ a := fun z => by subst z; obtain ⟨u, hu⟩ := h2.there; rw [n] at hu; cases hu
    exact ⟨b, h1, h2.mono le fun _ z => hk z, h3, h4, fun z => (mem z).elim h5 nb⟩
end
end Zw

namespace Zw
open PySem L2 PyProof.Rows PySem.Spec ClX
section
variable {X : Cx} {E : En} {k : Nat}
/-! ### a list as a shared cell -/
def cellM (ma : M (List Dat)) : M Dat := bnd ma fun ds => fun s => if ds.length ≤ sizeLine then .ret (.loc s.cs.length) ⟨s.env, s.cs ++ [some (.lst ds)]⟩ else .stuck
theorem ge_cell {es : List Expr} {pos : Pos} {ma : M (List Dat)} (ha : GA X es ma) : GE X (.List es pos) (cellM ma) := ⟨fun t W tk => PE.imp (pe_lst (ha.run t W tk)) fun σ H Q ⟨g, s, L, q⟩ =>
  rd_seq (R := RepsG X.K) (Q1 := fun xs H1 => xs.length ≤ sizeLine ∧ ∀ p, H1 p = none → Q (.ref p) (upd H1 p (.lst xs))) L q fun ds g1 s1 vs H1 ek L1 r q1 => by
    have q1 : atE X.K t W g1 s1 σ H1 (if ds.length ≤ sizeLine then .ret (.loc s1.cs.length) ⟨s1.env, s1.cs ++ [some (.lst ds)]⟩ else .stuck) Q := q1
    by_cases z : ds.length ≤ sizeLine
    · rw [if_pos z] at q1
      refine ⟨by rw [r.length]; exact z, fun p hp => ?_⟩
      obtain ⟨L2, e2⟩ := L1.cell (o := .lst vs) (d := .lst ds) hp fun g' l' => ⟨vs, upd_same, l'.reps r⟩
      refine q1 _ _ _ e2 L2 (.loc ?_)
      show (g1.io ++ [p])[s1.cs.length]? = some p
      rw [List.getElem?_append_right (by rw [L1.gr.len]; exact Nat.le_refl _), L1.gr.len]
      simp
    · rw [if_neg z] at q1; exact q1.elim⟩
/-! ### x[i] = e -/
def setIx (i : Nat) (v y : Dat) : MS := fun s => match y with
  | .int kx => (match s.env[i]? with
    | some (.val (.loc n)) => (match s.cs[n]? with
      | some (some (.lst ds)) => (match ixN ds.length kx with
        | some j => .nx ⟨s.env, s.cs.set n (some (.lst (ds.set j v)))⟩
        | none => .stuck)
      | _ => .stuck)
    | some (.own (.lst ds)) => (match ixN ds.length kx with
      | some j => .nx ⟨s.env.set i (.own (.lst (ds.set j v))), s.cs⟩
      | none => .stuck)
    | _ => .stuck)
  | _ => .stuck
theorem Reps.set {K : PySem.W.Frag} {P : Hp} {io : List Addr} {v : V} {d : Dat} (r : Rep K P io v d) : ∀ {vs : List V} {ds : List Dat} {j : Nat}, Reps K P io vs ds → Reps K P io (vs.set j v) (ds.set j d)
  | _, _, _, .nil => .nil
  | _, _, 0, .cons _ t => .cons r t
  | _, _, j + 1, .cons r' t => .cons r' (Reps.set r t)
theorem sw_sub {e : Expr} {o i : Expr} {p : Pos} {l : Nat} {env : Env} : swapsWithSole [.Subscript o i p] e l env = pure false := by
  cases e <;> rfl
theorem sd_sub {e : Expr} {o i : Expr} {p : Pos} {env : Env} : swappedStores [.Subscript o i p] e env = pure none := by
  cases e <;> rfl
def simpleO : OutS → Bool
  | .bk _ => false
  | .ct _ => false
  | .rt _ _ => false
  | _ => true
theorem setIx_simple {i : Nat} {v y : Dat} {s : Sto} : simpleO (setIx i v y s) = true := by
  unfold setIx
  repeat' (first | rfl | split)
theorem bndS_simple {α : Type} {m : M α} {f : α → MS} {s : Sto} (h : ∀ a s, simpleO (f a s) = true) : simpleO (bndS m f s) = true := by
  unfold bndS
  cases m s with
  | ret a s' => exact h a s'
  | exc x s' => rfl
  | stuck => rfl
theorem atS_simple {K : PySem.W.Frag} {t : Ent} {W : WX} {g : Gh} {o : OutS} {D : Ends} (h : simpleO o = true) (q : atS K t W g o D) : atS K t W g o { nx := D.nx, bk := fun _ _ => False, ct := fun _ _ => False, rt := fun _ _ => False } := by
  cases o with
  | nx s => exact q
  | exc x s => exact q
  | stuck => exact q
  | bk s => cases h
  | ct s => cases h
  | rt d s => cases h
theorem gs_setIx {i : Nat} {x : Str} {e ix : Expr} {px pt pos : Pos} {me mi : M Dat} (hN : X.N[i]? = some x) (hv : Vis X.env.scope x) (hd : (x == ("__debug__" : Str)) = false) (hcd : (x == ("__classdict__" : Str)) = false) (he : GE X e me) (hi : GE X ix mi)
    (ha : ∀ v, assign (.Subscript (.Name x px) ix pt) X.env v = (do
      let ov ← holding [v] (eval (.Name x px) X.env)
      let iv ← holding [v, ov] (eval ix X.env)
      standAt pt
      holding [v, ov, iv] (setItem ov iv v)
      release [v, ov, iv] [])) :
    GS X (.Assign [.Subscript (.Name x px) ix pt] e pos) (bndS me fun v => bndS (pkSlot i) fun _ => bndS mi fun y => setIx i v y) := ⟨fun t W tk => by
  -- the target, by hand
  have hg : PG X (.Subscript (.Name x px) ix pt) (fun v σ H Q => ∃ g s d, LRel X.K t g s σ H ∧ RepG X.K g v d ∧ atS X.K t W g ((bndS (pkSlot i) fun _ => bndS mi fun y => setIx i d y) s) { nx := Q, bk := fun _ _ => False, ct := fun _ _ => False, rt := fun _ _ => False }) := ⟨fun pins sh σ H v u Q I rv ⟨g, s, d, L, r, q⟩ => by
    rw [ha]
    unfold bndS pkSlot at q
    cases e0 : pkD i s with
    | none => rw [e0] at q; exact q.elim
    | some d0 =>
      rw [e0] at q
      obtain ⟨w', h1, h2⟩ := top_pk L e0
      refine wpAny_bind (wpAny_holding (thn ((pe_var hN hv hd hcd).run pins sh σ H (fun z H' => z = w' ∧ H' = H) I ⟨w', h1, rfl, rfl⟩) fun ov sh1 ⟨z, H', I1, rz, ez, eH⟩ => ?_))
      subst ez eH
      have q : atS X.K t W g (bndS mi (fun y => setIx i d y) s) _ := q
      refine wpAny_bind (wpAny_holding (thn ((hi.run t W tk).run pins sh1 σ H' (fun y H1 => ∃ dy g1 s1, GLe g g1 ∧ LRel X.K t g1 s1 σ H1 ∧ RepG X.K g1 y dy ∧ atS X.K t W g1 (setIx i d dy s1) { nx := Q, bk := fun _ _ => False, ct := fun _ _ => False, rt := fun _ _ => False }) I1 (rdS_seq L q fun dy g1 s1 y H1 ek L1 ry q1 => ⟨dy, g1, s1, ek.le, L1, ry, q1⟩)) fun iv sh2 ⟨y, H1, I2, ry, dy, g1, s1, le, L1, rdy, q1⟩ => ?_))
      refine wpAny_bind (wpAny_standAt (wpAny_bind (wpAny_holding ?_)))
      have fin : ∀ {a : Addr} {vs : List V} {ds : List Dat} {kx : Int} {j : Nat}, y = .int kx → z = .ref a → H1 a = some (.lst vs) → RepsG X.K g1 vs ds → ixN ds.length kx = some j → Q σ (upd H1 a (.lst (vs.set j v))) → wpAny (model X.prog X.w) X.A (setItem ov iv u) (fun _ s' => wpAny (model X.prog X.w) X.A (release [u, ov, iv] []) (fun _ s' => ∃ σ' H', Inv X pins σ' H' s' ∧ Q σ' H') X.xe s') X.xe sh2 := fun {a vs ds kx j} ey ez hl rl hj hq => by
        subst ey ez
        refine thn (set_list pins sh2 σ H1 (.ref a) (.int kx) v ov iv u (fun H3 => Q σ H3) I2 rz ry rv ⟨a, vs, kx, j, rfl, rfl, hl, by rw [rl.length]; exact hj, hq⟩) fun _ s3 ⟨H3, I3, q3⟩ => ?_
        exact wpAny_release ⟨σ, H3, I3, q3⟩
      have rv1 : RepG X.K g1 v d := le.rep r
      unfold setIx at q1
      cases rdy with
      | int kx =>
        dsimp only at q1
        split at q1
        · rename_i n es
          split at q1
          · rename_i ds ec
            split at q1
            · rename_i j ej
              obtain ⟨v', k1, k2⟩ := L1.val i _ es
              cases k2 with
              | @loc a _ hl =>
                rw [h1] at k1
                cases k1
                obtain ⟨p1, vs, p2, p3⟩ := L1.gr.cell n _ a ec hl
                exact fin rfl rfl p2 p3 ej (q1 g1 σ _ (GLe.refl _) (L1.setCell ec hl ⟨vs.set j v, upd_same, Reps.set rv1 p3⟩))
            · exact q1.elim
          · exact q1.elim
        · rename_i ds es
          split at q1
          · rename_i j ej
            obtain ⟨a, k1, ⟨vs, k2, k3⟩, _⟩ := L1.own i _ es
            have k1' := k1
            rw [h1] at k1
            cases k1
            exact fin rfl rfl k2 k3 ej (q1 g1 σ _ (GLe.refl _) (L1.setOwn es k1' ⟨vs.set j v, upd_same, Reps.set rv1 k3⟩))
          · exact q1.elim
        · exact q1.elim
      | _ => exact q1.elim⟩
  refine PS.imp (ps_asg (he.run t W tk) hg sw_sub sd_sub rfl) fun D σ H ⟨g, s, L, q⟩ => ?_
  refine rdS_seq (Q1 := fun x H1 => ∃ g s d, LRel X.K t g s σ H1 ∧ RepG X.K g x d ∧ atS X.K t W g ((bndS (pkSlot i) fun _ => bndS mi fun y => setIx i d y) s) { nx := D.nx, bk := fun _ _ => False, ct := fun _ _ => False, rt := fun _ _ => False }) L q fun d g1 s1 v H1 ek L1 r q1 => ⟨g1, s1, d, L1, r, ?_⟩
  exact atS_simple (bndS_simple fun _ _ => bndS_simple fun _ _ => setIx_simple) q1⟩
end
end Zw

namespace Zw
open PySem L2 PyProof.Rows PySem.Spec ClX
section
variable {X : Cx} {E : En} {k : Nat}
/-! ### self.f = e in an __init__ -/
def putD (f : Str) (v : Dat) : List (Str × Dat) → List (Str × Dat)
  | [] => [(f, v)]
  | (g, x) :: r => if g = f then (g, v) :: r else (g, x) :: putD f v r
theorem put_rep {K : PySem.W.Frag} {P : Hp} {io : List Addr} {f : Str} {v : V} {d : Dat} (r : Rep K P io v d) : ∀ {fs : List (Str × V)} {ds : List (Str × Dat)}, ds.map (·.1) = fs.map (·.1) → Reps K P io (fs.map (·.2)) (ds.map (·.2)) →
    (putD f d ds).map (·.1) = (putF f v fs).map (·.1) ∧ Reps K P io ((putF f v fs).map (·.2)) ((putD f d ds).map (·.2))
  | [], [], _, _ => ⟨rfl, .cons r .nil⟩
  | [], _ :: _, k, _ => by simp at k
  | _ :: _, [], k, _ => by simp at k
  | (a, x) :: fs, (b, y) :: ds, k, rr => by
    simp only [List.map_cons, List.cons.injEq] at k
    obtain ⟨k1, k2⟩ := k
    subst k1
    cases rr with
    | cons r1 r2 =>
      unfold putD putF
      by_cases e : b = f
      · rw [if_pos e, if_pos e]
        exact ⟨by simp [k2], .cons r r2⟩
      · rw [if_neg e, if_neg e]
        obtain ⟨h1, h2⟩ := put_rep r k2 r2
        exact ⟨by simp [h1], .cons r1 h2⟩
def En.fldS (E : En) (i : Nat) (f : Str) (d : Dat) : MS := fun s => match s.env[i]? with
  | some (.slf (.ins c fs)) => if E.fld c f = true ∧ fs.length < 1000 then .nx ⟨s.env.set i (.slf (.ins c (putD f d fs))), s.cs⟩ else .stuck
  | _ => .stuck
theorem sw_attr {e : Expr} {o : Expr} {f : Str} {p : Pos} {l : Nat} {env : Env} : swapsWith e (some (.Attribute o f p)) l env = pure false := by
  cases e <;> rfl
theorem gs_fld {i : Nat} {x f : Str} {e : Expr} {px pt pos : Pos} {me : M Dat} (N : EnOk (md X) k E) (hN : X.N[i]? = some x) (hv : Vis X.env.scope x) (hd : (x == ("__debug__" : Str)) = false) (hcd : (x == ("__classdict__" : Str)) = false) (he : GE X e me) :
    GS X (.Assign [.Attribute (.Name x px) f pt] e pos) (bndS me fun d => E.fldS i f d) := ⟨fun t W tk => PS.imp (ps_fld (pe_var hN hv hd hcd) (he.run t W tk) sw_attr) fun D σ H ⟨g, s, L, q⟩ =>
  rdS_seq (Q1 := fun y H1 => ∃ v, σ[i]? = some (some v) ∧ ∃ a C dx fs, v = .ref a ∧ H1 a = some (.ins C dx fs) ∧ Cls X.K C ∧ NoAttr X.K C f ∧ fs.length < 1000 ∧ D.nx σ (upd H1 a (.ins C dx (putF f y fs)))) L q fun d g1 s1 v H1 ek L1 r q1 => by
    unfold En.fldS at q1
    split at q1
    · rename_i c ds es
      by_cases z : E.fld c f = true ∧ ds.length < 1000
      · rw [if_pos z] at q1
        obtain ⟨a, h1, ⟨dx, fs, h2, h3, h4⟩, _⟩ := L1.slf i _ es
        obtain ⟨ci, e1, e2⟩ := En.fld_some z.1
        have C := N.cl c ci e1
        have hl : fs.length = ds.length := by
          have := congrArg List.length h3
          simpa using this.symm
        obtain ⟨p1, p2⟩ := put_rep (f := f) r h3 h4
        exact ⟨.ref a, h1, a, _, dx, fs, rfl, h2, C.cls, C.flds f e2, by omega, q1 g1 σ _ (GLe.refl _) (L1.setSlf es h1 ⟨dx, _, upd_same, p1, p2⟩)⟩
      · rw [if_neg z] at q1; exact q1.elim
    · exact q1.elim⟩
/-! ### an __init__ by its body -/
def envIn (N : Nat) (d0 : Dat) (ds : List Dat) : List Slot := .slf d0 :: (ds.map .val ++ List.replicate (N - (ds.length + 1)) .unset)
def endSlf (s : Sto) : Res := match s.env[(0 : Nat)]? with
  | some (Slot.slf d) => .ret d s.cs
  | _ => .stuck
def endIn : OutS → Res
  | .nx s => endSlf s
  | .rt .non s => endSlf s
  | .exc x s => .exc x s.cs
  | _ => .stuck
def runIn (n N : Nat) (m : MS) : Con := fun ds cs => match ds with
  | d0 :: ds => if ds.length + 1 = n then endIn (m ⟨envIn N d0 ds, cs⟩) else .stuck
  | [] => .stuck
theorem lrel_startI {K : PySem.W.Frag} {N : List Str} {g : Gh} {cs : List (Option Dat)} {H : Hp} {x : Addr} {rest : List V} {d0 : Dat} {ds : List Dat} (gr : GRel K g cs H) (c0 : CellOk K g H x d0) (hP : g.P x = none) (hi : ¬ x ∈ g.io) (r : RepsG K g rest ds) (hl : rest.length + 1 ≤ N.length) : LRel K ⟨[x], g, cs, H, fun _ _ => False⟩ g ⟨envIn N.length d0 ds, cs⟩ (L2.start N (.ref x :: rest)) H := by
  obtain ⟨o0, ho0⟩ := c0.there
  have el : (envIn N.length d0 ds).length = N.length := by
    unfold envIn
    rw [List.length_cons, List.length_append, List.length_map, List.length_replicate, ← r.length]
    omega
  have at_ : ∀ (i : Nat) (y : Slot), (envIn N.length d0 ds)[i]? = some y → (i = 0 ∧ y = .slf d0) ∨ y = .unset ∨ ∃ d j, i = j + 1 ∧ y = .val d ∧ ds[j]? = some d := fun i y e => by
    unfold envIn at e
    cases i with
    | zero => simp at e; exact .inl ⟨rfl, e.symm⟩
    | succ j =>
      right
      rw [List.getElem?_cons_succ] at e
      by_cases hj : j < ds.length
      · rw [List.getElem?_append_left (by simpa using hj), List.getElem?_map] at e
        cases q : ds[j]? with
        | none => rw [q] at e; cases e
        | some d => rw [q] at e; cases e; exact .inr ⟨d, j, rfl, rfl, q⟩
      · rw [List.getElem?_append_right (by simpa using Nat.le_of_not_lt hj)] at e
        exact .inl (List.eq_of_mem_replicate (List.mem_of_getElem? e))
  have σ0 : (L2.start N (.ref x :: rest))[0]? = some (some (.ref x)) := by
    unfold L2.start
    rw [List.getElem?_append_left (by simp)]
    rfl
  refine ⟨fun a z => by
      have : a = x := by simpa using z
      subst this
      exact ⟨o0, ho0⟩, gr, GExt.refl _ _ _, by rw [el, start_len (by simpa using hl)], fun i d e => ?_, fun i d e => ?_, fun i d e => ?_, fun i j a d e z1 => ?_, fun i j d e z1 z2 => ?_, fun i c e => by rcases at_ i _ e with ⟨_, q⟩ | q | ⟨d', j, _, q, _⟩ <;> cases q⟩
  · rcases at_ i _ e with ⟨_, q⟩ | q | ⟨d', j, rfl, q, e'⟩
    · cases q
    · cases q
    · cases q
      obtain ⟨v, h1, h2⟩ := r.get e'
      refine ⟨v, ?_, h2⟩
      unfold L2.start
      rw [List.getElem?_append_left (by simpa using (List.getElem?_eq_some_iff.mp h1).1), List.getElem?_map, List.getElem?_cons_succ, h1]
      rfl
  · rcases at_ i _ e with ⟨_, q⟩ | q | ⟨d', j, _, q, e'⟩ <;> cases q
  · rcases at_ i _ e with ⟨rfl, q⟩ | q | ⟨d', j, _, q, e'⟩
    · cases q; exact ⟨x, σ0, c0, hP, ⟨by simp, o0, ho0⟩, hi⟩
    · cases q
    · cases q
  · rcases at_ i _ z1 with ⟨_, q⟩ | q | ⟨d', j, _, q, e'⟩ <;> cases q
  · rcases at_ i _ z1 with ⟨rfl, q⟩ | q | ⟨d', j, _, q, e'⟩
    · rcases at_ j _ z2 with ⟨rfl, q⟩ | q | ⟨d', j, _, q, e'⟩
      · rfl
      · cases q
      · cases q
    · cases q
    · cases q
theorem init_ok {D : Md} {f : Addr} {fd : FuncData} {N ps : List Str} {k : Nat} {body : List Stmt} {scope : Scope} {x qual : Str} {params : Arguments} {dvs : List V} {kws : List (Str × V)} {m : MS} (F : FunD D.K x qual params body scope dvs kws f fd) (S : FnScope N ps scope) (hlen : ps.length ≤ N.length) (hb : ∀ X, XOk X D N scope k f qual → GSs X body m) :
    FnOk D.P D.w D.K D.mg D.base (CX D.P D.w) (k + 1) f fd ps (spInit D.K ps.length (runIn ps.length N.length m)) := by
  obtain ⟨oc, od, dV, kV, doc, pm, an, cdv, ct, osl, rfl, lk, hcd, _, _⟩ := F.ex
  refine fn_of lk hcd S (fun vs H Q E h => h.1) fun A outer s H vs Q E hr h => ?_
  obtain ⟨hl, xa, rest, g, cs, d0, ds, rfl, gr, c0, hP, hi, r, q⟩ := h
  have hl' : rest.length + 1 = ps.length := by simpa using hl
  refine ⟨_, (hb (cxOf (CX D.P D.w) D.P D.w D.K D.mg D.base N qual scope f cdv A outer s H E) ⟨rfl, rfl, S.nd, rfl, rfl, passes_of rfl, fun _ _ => .inl rfl, hr, ⟨rfl, rfl, rfl, (codeV_of lk).symm, rfl⟩⟩).run ⟨[xa], g, cs, H, fun _ _ => False⟩ (fun cls d _ H => E cls d H) ⟨takes_of rfl rfl rfl rfl, fun _ _ f c z => z.elim⟩, g, ⟨envIn N.length d0 ds, cs⟩, lrel_startI gr c0 hP hi r (by omega), ?_⟩
  have hd : ds.length + 1 = ps.length := by rw [← r.length]; exact hl'
  have q : match (if ds.length + 1 = ps.length then endIn (m ⟨envIn N.length d0 ds, cs⟩) else .stuck) with
    | .ret d cs' => ∀ g' H', GExt [xa] g cs H g' cs' H' → GRel D.K g' cs' H' → CellOk D.K g' H' xa d → g'.P xa = none → ¬ xa ∈ g'.io → Q .non H'
    | .exc e cs' => ∀ g' H' cls dd, GExt [xa] g cs H g' cs' H' → GRel D.K g' cs' H' → XRep D.K g' cls dd e → E cls dd H'
    | .stuck => False := q
  rw [if_pos hd] at q
  have done : ∀ {s' : Sto} {g' : Gh} {σ' : L2.St} {H' : Hp}, (match endSlf s' with
    | .ret d cs' => ∀ g' H', GExt [xa] g cs H g' cs' H' → GRel D.K g' cs' H' → CellOk D.K g' H' xa d → g'.P xa = none → ¬ xa ∈ g'.io → Q .non H'
    | .exc e cs' => ∀ g' H' cls dd, GExt [xa] g cs H g' cs' H' → GRel D.K g' cs' H' → XRep D.K g' cls dd e → E cls dd H'
    | .stuck => False) → LRel D.K ⟨[xa], g, cs, H, fun _ _ => False⟩ g' s' σ' H' → Q .non H' := fun {s' g' σ' H'} z L => by
    unfold endSlf at z
    split at z
    · rename_i d cs' hh
      split at hh
      · rename_i d' e0
        cases hh
        obtain ⟨a, k1, k2, k3, ⟨k4, _⟩, k5⟩ := L.slf 0 _ e0
        have : a = xa := by simpa using k4
        subst this
        exact z g' H' L.ex L.gr k2 k3 k5
      · cases hh
    · rename_i hh
      split at hh <;> cases hh
    · exact z.elim
  cases e : m ⟨envIn N.length d0 ds, cs⟩ with
  | nx s' => rw [e] at q; exact fun g' σ' H' l L => done q L
  | rt d s' =>
    rw [e] at q
    intro g' σ' v H' l L rv
    cases rv with
    | non => exact done q L
    | _ => exact q.elim
  | exc x s' => rw [e] at q; exact fun g' σ' H' cls dd l L rv => q g' H' cls dd L.ex L.gr rv
  | bk s' => rw [e] at q; exact q.elim
  | ct s' => rw [e] at q; exact q.elim
  | stuck => rw [e] at q; exact q.elim
/-! ### x, y = a, b (on one line: the stores are swapped) -/
def par2 (i j : Nat) (ds : List Dat) : MS := fun s => match ds with
  | [a, b] => .nx ⟨(s.env.set i (.val a)).set j (.val b), s.cs⟩
  | _ => .stuck
theorem gs_par2 {i j : Nat} {x y : Str} {a b : Expr} {ma : M (List Dat)} {px py pt pos : Pos} {kt k2 : Nat} {pt2 : Pos} (hc : X.calm = true) (hN : X.N.Nodup) (hi : X.N[i]? = some x) (hj : X.N[j]? = some y) (hij : i ≠ j)
    (hx : X.env.scope.names.lookup x = some .local) (hy : X.env.scope.names.lookup y = some .local) (ha : GA X [a, b] ma)
    (hw : swappedStores [.Tuple [.Name x px, .Name y py] kt pt] (.Tuple [a, b] k2 pt2) X.env = pure (some [x, y])) :
    GS X (.Assign [.Tuple [.Name x px, .Name y py] kt pt] (.Tuple [a, b] k2 pt2) pos) (bndS ma (par2 i j)) := ⟨fun t W tk => PS.imp (ps_par hc hN hi hj hij hx hy (ha.run t W tk) hw rfl) fun D σ H ⟨g, s, L, q⟩ =>
  rdS_seq (R := RepsG X.K) (Q1 := fun vs H1 => ∃ v w, vs = [v, w] ∧ D.nx ((σ.set i (some v)).set j (some w)) H1) L q fun ds g1 s1 vs H1 ek L1 r q1 => by
    unfold par2 at q1
    split at q1
    · cases r with
      | @cons v d vs' ds' r1 r2 =>
        cases r2 with
        | @cons w e vs'' ds'' r2 r3 =>
          cases r3
          exact ⟨v, w, rfl, q1 g1 _ H1 (GLe.refl _) ((L1.setVal (i := i) r1).setVal (i := j) r2)⟩
    · exact q1.elim⟩
/-! ### f-strings -/
def fmtM (d : Dat) : M Dat := match d with
  | .str y => if y.length ≤ sizeLine then pur (.str y) else fail
  | .int i => if strOk i = true then pur (.str (toString i : String)) else fail
  | _ => fail
theorem ge_fmt {e : Expr} {me : M Dat} {pos : Pos} (he : GE X e me) : GE X (.FormattedValue e (-1) none pos) (bnd me fmtM) := ⟨fun t W tk => PE.imp (pe_fmt (he.run t W tk)) fun σ H Q ⟨g, s, L, q⟩ =>
  rd_seq (R := RepG X.K) (Q1 := fun x H1 => (∃ y : Str, x = V.str y ∧ y.length ≤ sizeLine ∧ Q (.str y) H1) ∨ ∃ i : Int, x = V.int i ∧ i.natAbs.log2 < 1920 ∧ Q (.str (toString i : String)) H1) L q fun d g1 s1 v H1 ek L1 r q1 => by
    cases r with
    | str y =>
      unfold fmtM at q1
      dsimp only at q1
      by_cases z : y.length ≤ sizeLine
      · rw [if_pos z] at q1; exact .inl ⟨y, rfl, z, at_here L1 q1 (.str y)⟩
      · rw [if_neg z] at q1; exact q1.elim
    | int i =>
      unfold fmtM at q1
      dsimp only at q1
      by_cases z : strOk i = true
      · rw [if_pos z] at q1; exact .inr ⟨i, rfl, of_decide_eq_true z, at_here L1 q1 (.str _)⟩
      · rw [if_neg z] at q1; exact q1.elim
    | _ => exact q1.elim⟩
inductive GJ (X : Cx) : List Expr → List (M Dat) → Prop where
  | nil : GJ X [] []
  | cons {e : Expr} {m : M Dat} {es : List Expr} {ms : List (M Dat)} (h : GE X e m) (r : GJ X es ms) : GJ X (e :: es) (m :: ms)
def joinM : List (M Dat) → Str → M Dat
  | [], acc => pur (.str acc)
  | m :: ms, acc => bnd m fun d => match d with
    | .str y => if (acc ++ y).length ≤ sizeLine then joinM ms (acc ++ y) else fail
    | _ => fail
theorem join_at {t : Ent} {W : WX} {σ : L2.St} {Q : VK} : ∀ {ms : List (M Dat)} {acc : Str} {H : Hp} {g : Gh} {s : Sto}, LRel X.K t g s σ H → atE X.K t W g s σ H (joinM ms acc s) Q → tJs (ms.map fun m => rdE X.K t W m) acc σ H fun out H1 => Q (.str out) H1
  | [], acc, H, g, s, L, q => at_here L q (.str acc)
  | m :: ms, acc, H, g, s, L, q => rd_seq (R := RepG X.K) (Q1 := fun x H1 => ∃ y : Str, x = V.str y ∧ (acc ++ y).length ≤ sizeLine ∧ tJs (ms.map fun m => rdE X.K t W m) (acc ++ y) σ H1 fun out H1 => Q (.str out) H1) L q fun d g1 s1 v H1 ek L1 r q1 => by
    cases r with
    | str y =>
      dsimp only at q1
      by_cases z : (acc ++ y).length ≤ sizeLine
      · rw [if_pos z] at q1; exact ⟨y, rfl, z, join_at L1 q1⟩
      · rw [if_neg z] at q1; exact q1.elim
    | _ => exact q1.elim
theorem GJ.pj {t : Ent} {W : WX} (tk : TakesE X t W) {es : List Expr} {ms : List (M Dat)} (h : GJ X es ms) : PJ X es (ms.map fun m => rdE X.K t W m) := by
  induction h with
  | nil => exact .nil
  | cons h r ih => exact .cons (h.run t W tk) ih
theorem ge_join {v1 v2 : Expr} {rest : List Expr} {ms : List (M Dat)} {pos : Pos} (h : GJ X (v1 :: v2 :: rest) ms) : GE X (.JoinedStr (v1 :: v2 :: rest) pos) (joinM ms Str.empty) := ⟨fun t W tk => PE.imp (pe_joined (h.pj tk)) fun σ H Q ⟨g, s, L, q⟩ => join_at L q⟩
theorem ge_join1 {e : Expr} {m : M Dat} {pos : Pos} (h : GE X e m) : GE X (.JoinedStr [e] pos) m := ⟨fun t W tk => pe_joined1 (h.run t W tk)⟩
end
end Zw

namespace Zw
open PySem L2 PyProof.Rows PySem.Spec ClX
/-! ### == of plain data -/
mutual
def Dat.py : Dat → Option PyData
  | .non => some .none
  | .bl b => some (.bool b)
  | .int i => some (.int i)
  | .str x => some (.str x)
  | .lst ds => (Dat.pys ds).map .list
  | .tup ds => (Dat.pys ds).map .tuple
  | _ => none
def Dat.pys : List Dat → Option (List PyData)
  | [] => some []
  | d :: ds => match Dat.py d, Dat.pys ds with
    | some x, some xs => some (x :: xs)
    | _, _ => none
end
mutual
theorem py_rep {K : PySem.W.Frag} {P H : Hp} {io : List Addr} (sb : Sub P H) : ∀ {v : V} {d : Dat} {e : PyData}, Rep K P io v d → d.py = some e → Dp K H v e
  | _, _, _, .non, h => by unfold Dat.py at h; cases h; exact .non
  | _, _, _, .bl b, h => by unfold Dat.py at h; cases h; exact .bl b
  | _, _, _, .int i, h => by unfold Dat.py at h; cases h; exact .int i
  | _, _, _, .str x, h => by unfold Dat.py at h; cases h; exact .str x
  | _, _, _, .tup h1 r, h => by
    unfold Dat.py at h
    obtain ⟨xs, e1, e2⟩ := Option.map_eq_some_iff.mp h
    subst e2
    exact .tup (sb.sqT h1) (pys_rep sb r e1)
  | _, _, _, .lst h1 r, h => by
    unfold Dat.py at h
    obtain ⟨xs, e1, e2⟩ := Option.map_eq_some_iff.mp h
    subst e2
    exact .lst (sb.sqL h1) (pys_rep sb r e1)
  | _, _, _, .ty n, h => by unfold Dat.py at h; cases h
  | _, _, _, .dicK _ _ _, h => by unfold Dat.py at h; cases h
  | _, _, _, .dicT _ _ _, h => by unfold Dat.py at h; cases h
  | _, _, _, .ins _ _ _, h => by unfold Dat.py at h; cases h
  | _, _, _, .exc0 _, h => by unfold Dat.py at h; cases h
  | _, _, _, .exc1 _ _ _ _, h => by unfold Dat.py at h; cases h
  | _, _, _, .cls _, h => by unfold Dat.py at h; cases h
  | _, _, _, .fn _, h => by unfold Dat.py at h; cases h
  | _, _, _, .loc _, h => by unfold Dat.py at h; cases h
theorem pys_rep {K : PySem.W.Frag} {P H : Hp} {io : List Addr} (sb : Sub P H) : ∀ {vs : List V} {ds : List Dat} {es : List PyData}, Reps K P io vs ds → Dat.pys ds = some es → DpAll K H vs es
  | _, _, _, .nil, h => by unfold Dat.pys at h; cases h; exact .nil
  | _, _, _, .cons r t, h => by
    unfold Dat.pys at h
    split at h
    · rename_i x xs h1 h2
      cases h
      exact .cons (py_rep sb r h1) (pys_rep sb t h2)
    · cases h
end
def eqN (x y : Dat) : Option Bool := match x.py, y.py with
  | some d, some e => if (SeqAt.shaped d && SeqAt.shaped e) = true then some (PyData.eqv d e) else none
  | _, _ => none
def rEqN : Rule := p2 fun x y => (eqN x y).map .bl
def rNeN : Rule := p2 fun x y => (eqN x y).map fun b => .bl (!b)
section
variable {X : Cx}
theorem eqN_rep {g : Gh} {H : Hp} {x y : V} {dx dy : Dat} {b : Bool} (sb : Sub g.P H) (r1 : RepG X.K g x dx) (r2 : RepG X.K g y dy) (h : eqN dx dy = some b) : ∃ d e, Dp X.K H x d ∧ Dp X.K H y e ∧ SeqAt.shaped d = true ∧ SeqAt.shaped e = true ∧ PyData.eqv d e = b := by
  unfold eqN at h
  split at h
  · rename_i d e h1 h2
    split at h
    · rename_i z
      cases h
      obtain ⟨z1, z2⟩ := Bool.and_eq_true_iff.mp z
      exact ⟨d, e, py_rep sb r1 h1, py_rep sb r2 h2, z1, z2, rfl⟩
    · cases h
  · cases h
theorem ok_eqN {k : Nat} (hr : Room k X.A) : ROk X (f2 (compareOp .Eq)) rEqN := ROk.p2 fun pins sh σ H g x y u v dx dy d Q e I r1 r2 sb p1 p2 q => by
  obtain ⟨b, e1, e2⟩ := Option.map_eq_some_iff.mp e
  subst e2
  obtain ⟨a, c, z1, z2, z3, z4, rfl⟩ := eqN_rep sb p1 p2 e1
  exact op_eqD (by have := hr.un; omega) pins sh σ H x y u v Q I r1 r2 ⟨a, c, z1, z2, z3, z4, q _ (.bl _)⟩
theorem ok_neN {k : Nat} (hr : Room k X.A) : ROk X (f2 (compareOp .NotEq)) rNeN := ROk.p2 fun pins sh σ H g x y u v dx dy d Q e I r1 r2 sb p1 p2 q => by
  obtain ⟨b, e1, e2⟩ := Option.map_eq_some_iff.mp e
  subst e2
  obtain ⟨a, c, z1, z2, z3, z4, rfl⟩ := eqN_rep sb p1 p2 e1
  exact op_neD (by have := hr.un; omega) pins sh σ H x y u v Q I r1 r2 ⟨a, c, z1, z2, z3, z4, q _ (.bl _)⟩
end
end Zw

namespace Zw
open PySem L2 PyProof.Rows PySem.Spec ClX

/-! ### a caught exception is a value from then on -/
section
variable {X : Cx} {pins : List (Addr × Obj)} {σ : L2.St} {H : Hp} {s : Shared}
/-- an object of ours that was not told as yet is told -/
theorem inv_tell {a : Addr} {o : HO} {oe : Obj} {vs : Array Value} (J : Inv X pins σ H s) (hn : H a = none) (h0 : X.s_0.heap.get? a = none) (hL : a ≠ X.env.locals) (ge : s.heap.get? a = some oe) (gd : oe.data = .fields vs)
    (hp : ∀ p ∈ X.pn ++ pins, p.1 ≠ a) (new : ObjOk X.prog X.w (upd H a o) s.heap a o) : Inv X pins σ (upd H a o) s := by
  have same : ∀ {b : Addr} {u : HO}, H b = some u → (upd H a o) b = some u := fun {b u} e => by rw [upd_ne (ne_of_none e hn)]; exact e
  have free : ∀ {b : Addr}, b ≠ a → H b = none → (upd H a o) b = none := fun n e => by rw [upd_ne n]; exact e
  have old : ∀ {b : Addr} {q : Obj}, X.s_0.heap.get? b = some q → b ≠ a := fun {b q} e z => by rw [z, h0] at e; cases e
  have U := J.base
  refine ⟨J.ok, J.os, J.bare, { keep := U.keep, slot := U.slot, free := fun b q e n x => free (old e) (U.free b q e n x), there := U.there, tups := fun b xs e => same (U.tups b xs e), frzs := fun b q u e => same (U.frzs b q u e), tbls := fun b ps e => (U.tbls b ps e).imp fun m z => same z }, J.loc, J.cell, free (Ne.symm hL) J.free, fun x c e => free (fun z => ?_) (J.freeC x c e), fun p m => ?_, fun b u e => ?_, J.len⟩
  · obtain ⟨v, q, e1, e2⟩ := J.cell x c e
    rw [z, ge] at e1
    cases e1
    rw [gd] at e2
    cases e2
  · obtain ⟨e1, e2, e3⟩ := J.pin p m
    exact ⟨e1, free (hp p m) e2, e3⟩
  · by_cases q : b = a
    · subst q
      rw [upd_same] at e
      cases e
      exact new
    · rw [upd_ne q] at e
      exact (J.hok b u e).stay (fun _ _ _ z => z) (fun c z => same z) fun c xs z => same z
end
theorem exT_ok {P : Program} {w : World} {H : Hp} {h : Heap} {a C : Addr} {d : Option Addr} {oe : Obj} {vs : Array Value} (e : h.get? a = some oe) (z : Zc (.ref C) d oe) (g : oe.data = .fields vs) : ObjOk P w H h a (exT a C d) :=
  ⟨⟨oe, vs, e, z.1, z.2, g⟩, ⟨oe, e⟩, fun _ _ ⟨q, v, k1, k2⟩ k => ⟨q, v, k q k1, k2⟩⟩
/-- what flies is a value when it is caught -/
theorem XRep.caught {K : PySem.W.Frag} {g : Gh} {a : Addr} {cls : Value} {d : Option Addr} {x : Dat} (r : XRep K g cls d x) (n : g.P a = none) : ∃ C, cls = .ref C ∧ RepG K ⟨upd g.P a (exT a C d), g.io⟩ (.ref a) x := by
  obtain ⟨c, fs, rfl, rfl, h⟩ := r
  refine ⟨_, rfl, ?_⟩
  rcases h with ⟨rfl, rfl⟩ | ⟨dx, fv, rfl, h1, h2, h3⟩
  · exact .exc0 upd_same
  · exact .exc1 upd_same (show (upd g.P a _) dx = _ by rw [upd_ne (ne_of_none h1 n)]; exact h1) h2 (h3.mono (Le.new n) (List.prefix_refl _))
/-- a slot's name goes -/
theorem LRel.unset {K : PySem.W.Frag} {t : Ent} {g : Gh} {s : Sto} {σ : L2.St} {H : Hp} {i : Nat} (L : LRel K t g s σ H) : LRel K t g ⟨s.env.set i .unset, s.cs⟩ (σ.set i none) H := by
  have at_ : ∀ {j : Nat} {x : Slot}, (s.env.set i .unset)[j]? = some x → x ≠ .unset → j ≠ i ∧ s.env[j]? = some x ∧ (σ.set i none)[j]? = σ[j]? := fun {j x} e n => by
    rcases set_at e with ⟨_, z⟩ | ⟨q, z⟩
    · exact absurd z.symm (Ne.symm n)
    · exact ⟨q, z, List.getElem?_set_ne (Ne.symm q)⟩
  refine ⟨L.xin, L.gr, L.ex, by simpa using L.len, fun j d e => ?_, fun j d e => ?_, fun j d e => ?_, fun j k a d e z1 z2 z3 z4 => ?_, fun j k d e z1 z2 => ?_, fun j c e => ?_⟩
  · obtain ⟨_, h1, h2⟩ := at_ e (fun z => by cases z); rw [h2]; exact L.val j d h1
  · obtain ⟨_, h1, h2⟩ := at_ e (fun z => by cases z); rw [h2]; exact L.own j d h1
  · obtain ⟨_, h1, h2⟩ := at_ e (fun z => by cases z); rw [h2]; exact L.slf j d h1
  · obtain ⟨_, h1, h2⟩ := at_ z1 (fun z => by cases z)
    obtain ⟨_, h3, h4⟩ := at_ z2 (fun z => by cases z)
    rw [h2] at z3; rw [h4] at z4
    exact L.dst j k a d e h1 h3 z3 z4
  · obtain ⟨_, h1, h2⟩ := at_ z1 (fun z => by cases z)
    obtain ⟨_, h3, h4⟩ := at_ z2 (fun z => by cases z)
    exact L.one j k d e h1 h3
  · obtain ⟨_, h1, h2⟩ := at_ e (fun z => by cases z); rw [h2]; exact L.lam j c h1

/-! ### try .. except -/
/-- where an except suite runs: the exception is a value among the others -/
abbrev inSuite (X : Cx) (a : Addr) : Cx := { X with A := X.A.mark (some (.ref a)), calm := false, xe := fun _ _ => False }
theorem inSuite_ok {X : Cx} (k : X.Ok) (a : Addr) : (inSuite X a).Ok :=
  { mod := k.mod, kind := k.kind, glob := k.glob, blt := k.blt, above := k.above, inj := k.inj, has := k.has, cab := k.cab, hd := fun z => Bool.noConfusion z, frames := k.frames, stk := k.stk, exf := k.exf, bs := k.bs, bsz := k.bsz, noex := k.noex, exfs := k.exfs, funs := k.funs, frf := k.frf }
theorem inv_suite {X : Cx} {pins : List (Addr × Obj)} {σ : L2.St} {H : Hp} {s : Shared} (I : Inv X pins σ H s) (a : Addr) : Inv (inSuite X a) pins σ H s :=
  { ok := inSuite_ok I.ok a, os := I.os, bare := I.bare, base := I.base, loc := I.loc, cell := I.cell, free := I.free, freeC := I.freeC, pin := I.pin, hok := I.hok, len := I.len }
theorem inv_out {X : Cx} {pins : List (Addr × Obj)} {σ : L2.St} {H : Hp} {s : Shared} {a : Addr} (I : Inv (inSuite X a) pins σ H s) (k : X.Ok) : Inv X pins σ H s :=
  { ok := k, os := I.os, bare := I.bare, base := I.base, loc := I.loc, cell := I.cell, free := I.free, freeC := I.freeC, pin := I.pin, hok := I.hok, len := I.len }
theorem takes_suite {X : Cx} {t : Ent} {a : Addr} : TakesE (inSuite X a) t (fun _ _ _ _ => False) := ⟨fun u s' h => by
  obtain ⟨_, _, _, _, _, _, _, _, _, _, _, _, _, _, _, _, w⟩ := h
  exact w.elim, fun z => Bool.noConfusion z⟩
/-- what an except clause does with the exception x: the suite, or on with it; i: the slot of its name -/
def onExc (i : Option Nat) (catch_ : Str → Option Bool) (ms : MS) (x : Dat) (s : Sto) : OutS := match x with
  | .exc c _ => (match catch_ c with
    | some true => (match i with
      | some i => (match ms ⟨s.env.set i (.val x), s.cs⟩ with
        | .nx s' => .nx ⟨s'.env.set i .unset, s'.cs⟩
        | .bk s' => .bk ⟨s'.env.set i .unset, s'.cs⟩
        | .ct s' => .ct ⟨s'.env.set i .unset, s'.cs⟩
        | .rt d s' => .rt d ⟨s'.env.set i .unset, s'.cs⟩
        | _ => .stuck)
      | none => (match ms s with
        | .exc _ _ => .stuck
        | o => o))
    | some false => .exc x s
    | none => .stuck)
  | _ => .stuck
def tryS (i : Option Nat) (catch_ : Str → Option Bool) (mb ms : MS) : MS := fun s => match mb s with
  | .exc x s' => onExc i catch_ ms x s'
  | o => o
end Zw

namespace Zw
open PySem L2 PyProof.Rows PySem.Spec ClX
/-- the name of an except clause and its slot -/
def AsOk (X : Cx) : Option Str → Option Nat → Prop
  | some n, some i => X.N[i]? = some n ∧ X.env.kindOf n = some .local
  | none, none => True
  | _, _ => False
section
variable {X : Cx} {t : Ent} {W : WX} {g : Gh} {D : Ends} {ct : Str → Option Bool} {mb ms : MS} {x : Str} {CA : Addr} {b₀ : Stmt} {body suite : List Stmt} {np pos pos' : Pos} {on : Option Str} {i : Option Nat}
/-- the suite from the landing on -/
theorem suite_run (ok : X.Ok) (hN : X.N.Nodup) (ha : AsOk X on i) (hsu : ∀ a, GSs (inSuite X a) (b₀ :: suite) ms) {pins : List (Addr × Obj)} {σ : L2.St} {H : Hp} {s : Shared} {g1 : Gh} {s1 : Sto} {a : Addr} {xd : Dat} {c : Str} {fs : List (Str × Dat)} {h3 : Heap} {B : Heap} {l : List Env} {Z : Obj → Prop}
    (ex : xd = .exc c fs) (hct : ct c = some true) (L1 : LRel X.K t g1 s1 σ H) (r1 : RepG X.K g1 (.ref a) xd) (q1 : atS X.K t W g1 (onExc i ct ms xd s1) D) (fl : HandSPX.FlyingZ B l a Z s.heap) (J : ∀ h4, HandSPX.FlyingZ B l a Z h4 → s.heap.UpToSlots h4 → Inv X pins σ H { s with heap := h4 }) :
    codeAny (model X.prog X.w) (X.A.mark (some (.ref a))) (.handlers (.ref a) [.ExceptHandler none on (b₀ :: suite) pos'] X.env) (fun r s₂ => match r with
          | .ok f => (match (generalizing := false) on with
            | none => SP X pins D f s₂
            | some n => wpAny (model X.prog X.w) X.A (do bindName X.env n .none; unbindBehindTheSuite X.env n pos') (fun _ s₃ => SP X pins D f s₃) X.xe s₂)
          | .error x => cameBackBy (model X.prog X.w) X.A X.env X.xe x s₂) s := by
  subst ex
  unfold onExc at q1
  dsimp only at q1
  rw [hct] at q1
  dsimp only at q1
  cases on with
  | none =>
    cases i with
    | some i => exact ha.elim
    | none =>
      refine codeAny_handlers_suite (HandSPX.lands_againZ fl fun h4 fl4 up4 => ?_)
      have S := inv_suite (J h4 fl4 up4) a
      have q2 : atS X.K t (fun _ _ _ _ => False) g1 (ms s1) D := by
        revert q1
        cases ms s1 <;> first | exact fun q1 => q1 | exact fun q1 => q1.elim
      refine wpAny_mono (((hsu a).run t _ takes_suite).run pins _ σ H D S ⟨g1, s1, L1, q2⟩) (fun f s6 hsp => ?_) fun _ _ z => z.elim
      cases f with
      | next => obtain ⟨σ6, H6, S6, q6⟩ := hsp; exact ⟨σ6, H6, inv_out S6 ok, q6⟩
      | brk => obtain ⟨σ6, H6, S6, q6⟩ := hsp; exact ⟨σ6, H6, inv_out S6 ok, q6⟩
      | cont => obtain ⟨σ6, H6, S6, q6⟩ := hsp; exact ⟨σ6, H6, inv_out S6 ok, q6⟩
      | ret u => obtain ⟨v6, σ6, H6, S6, r6, q6⟩ := hsp; exact ⟨v6, σ6, H6, inv_out S6 ok, r6, q6⟩
  | some n =>
    cases i with
    | none => exact ha.elim
    | some i =>
      obtain ⟨hi, hl⟩ := ha
      dsimp only at q1
      refine codeAny_handlers_suite_as (HandSPX.lands_againZ fl fun h4 fl4 up4 => ?_)
      have S := inv_suite (J h4 fl4 up4) a
      refine store_ok (X := inSuite X a) (v := .ref a) S hN hi (.inl hl) rfl (fun s5 S5 => ?_) (.inr hl)
      have q2 : atS X.K t (fun _ _ _ _ => False) g1 (ms ⟨s1.env.set i (.val (.exc c fs)), s1.cs⟩) { nx := fun σ' H' => D.nx (σ'.set i none) H', rt := D.rt, bk := fun σ' H' => D.bk (σ'.set i none) H', ct := fun σ' H' => D.ct (σ'.set i none) H' } := by
        revert q1
        cases ms ⟨s1.env.set i (.val (.exc c fs)), s1.cs⟩ with
        | nx s' => exact fun q1 g' σ' H' l L' => q1 g' _ H' l L'.unset
        | bk s' => exact fun q1 g' σ' H' l L' => q1 g' _ H' l L'.unset
        | ct s' => exact fun q1 g' σ' H' l L' => q1 g' _ H' l L'.unset
        | rt d s' => exact fun q1 g' σ' v H' l L' r' => q1 g' _ v H' l (L'.unset (i := i)) r'
        | exc y s' => exact fun q1 => q1.elim
        | stuck => exact fun q1 => q1
      refine wpAny_mono (((hsu a).run t _ takes_suite).run pins _ _ H _ S5 ⟨g1, _, L1.setVal r1, q2⟩) (fun f s6 hsp => ?_) fun _ _ z => z.elim
      have end_ : ∀ {σ6 : L2.St} {H6 : Hp} {Q : Shared → Prop}, Inv (inSuite X a) pins σ6 H6 s6 → (∀ s7, Inv X pins (σ6.set i none) H6 s7 → Q s7) → wpAny (model X.prog X.w) X.A (do bindName X.env n .none; unbindBehindTheSuite X.env n pos') (fun _ s7 => Q s7) X.xe s6 :=
        fun {σ6 H6 Q} S6 hq => gone_ok (inv_out S6 ok) hN hi hl hq
      cases f with
      | next => obtain ⟨σ6, H6, S6, q6⟩ := hsp; exact end_ S6 fun s7 J7 => ⟨_, _, J7, q6⟩
      | brk => obtain ⟨σ6, H6, S6, q6⟩ := hsp; exact end_ S6 fun s7 J7 => ⟨_, _, J7, q6⟩
      | cont => obtain ⟨σ6, H6, S6, q6⟩ := hsp; exact end_ S6 fun s7 J7 => ⟨_, _, J7, q6⟩
      | ret u => obtain ⟨v6, σ6, H6, S6, r6, q6⟩ := hsp; exact end_ S6 fun s7 J7 => ⟨_, _, _, J7, r6, q6⟩
/-- try: body / except x as n: suite -/
theorem gs_try (hs : X.stack = X.env :: X.outer) (hf : X.env.frame = some X.env.locals) (hex : X.ex = []) (hN : X.N.Nodup) (ha : AsOk X on i) (hc : Names X x (.ref CA)) (hm : ∀ c b, ct c = some b → PySem.W.exmOne X.K (.ref (He.ga X.K c)) (.ref CA) = some b)
    (hb : ∀ (pn : List (Addr × Obj)) (xe : Value → Shared → Prop), PassesOwn (model X.prog X.w) X.A X.env xe → GSs (X.tr pn xe) body mb) (hsu : ∀ a, GSs (inSuite X a) (b₀ :: suite) ms) :
    GS X (.Try body [.ExceptHandler (some (.Name x np)) on (b₀ :: suite) pos'] [] [] pos) (tryS i ct mb ms) := ⟨fun t W tk => ⟨fun pins s σ H D I ⟨g, st, L, q⟩ => by
  have ok := I.ok
  have hfr : X.A.frames = some (X.env :: X.outer) := by rw [ok.frames, hs]
  obtain ⟨xe, hxe⟩ : ∃ p : Value → Shared → Prop, p = fun e s₁ => wpAny (model X.prog X.w) X.A (noteFrame e X.env) (fun _ s₂ => wpAny (model X.prog X.w) X.A (setFlight e none) (fun _ s₃ => wpAny (model X.prog X.w) X.A (handleBy e X.env [.ExceptHandler (some (.Name x np)) on (b₀ :: suite) pos']) (SP X pins D) X.xe s₃) X.xe s₂) X.xe s₁ := ⟨_, rfl⟩
  have hpo : PassesOwn (model X.prog X.w) X.A X.env xe := by rw [hxe]; exact PassesOwn.looking
  obtain ⟨W', hW⟩ : ∃ w : WX, w = fun cls d σ' H' => ∃ g' s' xd, LRel X.K t g' s' σ' H' ∧ XRep X.K g' cls d xd ∧ atS X.K t W g' (onExc i ct ms xd s') D := ⟨_, rfl⟩
  have qb : atS X.K t W' g (mb st) D := by
    unfold tryS at q
    revert q
    cases mb st with
    | exc xd s' => exact fun q g' σ' H' cls dd l L' r => by rw [hW]; exact ⟨g', s', xd, L', r, atS_le l q⟩
    | _ => exact fun q => q
  have land : Takes (X.tr (X.pn ++ pins) xe) W' := fun u s' xx => by
    obtain ⟨a, B, sI, pins', σ', H', cls, d, rfl, J', nb, up, sky, na, os, ag, w⟩ := xx
    rw [hW] at w
    obtain ⟨g1, s1, xd, L1, r1, q1⟩ := w
    have J : Inv X pins σ' H' sI := J'.ofTry ok
    have sky' : Sky B (X.env :: X.outer) a (Zc cls d) X.env.locals s'.heap := by rw [← hs]; exact sky
    show xe _ _
    rw [hxe]
    refine Sky.land Zc.steady hfr hf sky' fun h3 fl3 up3 => ?_
    have J3 : Inv X pins σ' H' { s' with heap := h3 } := J.landed nb fl3.1 (up.trans up3) os ag
    obtain ⟨oe3, vs3, he3, hz3, hd3⟩ := fl3.there
    have nfr : a ∉ frs X.stack := fun hm => by
      rw [hs] at hm
      obtain ⟨_, o', e', hnf⟩ := fl3.2.2.1.mem hm
      rw [he3] at e'; cases e'
      exact hnf _ hd3
    have nI : sI.heap.get? a = none := by
      cases e : sI.heap.get? a with
      | none => rfl
      | some o =>
        have z := nb a o e nfr
        rw [fl3.2.1] at z; cases z
    have n0 : X.s_0.heap.get? a = none := by
      cases e : X.s_0.heap.get? a with
      | none => rfl
      | some o =>
        obtain ⟨o', z⟩ := J.base.there a o e (by rw [hex]; simp)
        rw [nI] at z; cases z
    have nL : a ≠ X.env.locals := fun z => nfr (by rw [hs]; exact List.mem_filterMap.mpr ⟨X.env, List.mem_cons_self, by rw [hf, z]⟩)
    have nP : ∀ p ∈ X.pn ++ pins, p.1 ≠ a := fun p hp z => by
      have e := (J.pin p hp).1
      rw [z, nI] at e; cases e
    refine wpAny_handleBy_cons (codeAny_handlers_test ?_) (by intro z; cases z)
    have LT : PySem.W.Looks (model X.prog X.w) h3 (typeOf (.ref a)) cls := fun A Q E s k z => wpAny_typeOf_ref (k _ _ he3) (by rw [hz3.1]; exact z)
    have S3 := inv_suite J3 a
    have test : ∀ {Q : Value → Shared → Prop} {E : Value → Shared → Prop}, Q (.ref CA) { s' with heap := h3 } → wpAny (model X.prog X.w) (X.A.mark (some (.ref a))) (eval (.Name x np) X.env) Q E { s' with heap := h3 } := fun {Q E} z => by
      obtain ⟨hg, hdbg, hm | ⟨hm, hv, hnn⟩⟩ := hc
      · exact ld_glob (X := inSuite X a) S3 hg hm z hdbg
      · exact ld_blt (X := inSuite X a) S3 hg hm hv z hnn hdbg
    obtain ⟨c, fs, ex, rfl, rr⟩ := id r1
    cases hct : ct c with
    | none =>
      rw [ex] at q1
      unfold onExc at q1
      dsimp only at q1
      rw [hct] at q1
      exact q1.elim
    | some b =>
      refine test ((PySem.W.exm_one (M := model X.prog X.w) J3.kIn LT (hm c b hct)).here ?_)
      cases b with
      | true =>
        obtain ⟨L2, ek2⟩ := L1.laid (o := exT a (He.ga X.K c) d) na
        have pn : g1.P a = none := by
          cases e : g1.P a with
          | none => rfl
          | some u => rcases L1.gr.sub a u e with z | ⟨_, o', z⟩ <;> (rw [na] at z; cases z)
        obtain ⟨C', eC, r2⟩ := r1.caught pn
        cases eC
        exact suite_run (s := { s' with heap := h3 }) (h3 := h3) ok hN ha hsu ex hct L2 r2 (atS_le ek2.le q1) fl3 fun h4 fl4 up4 => by
          obtain ⟨oe4, vs4, he4, hz4, hd4⟩ := fl4.there
          exact inv_tell (J.landed nb fl4.1 ((up.trans up3).trans up4) os ag) na n0 nL he4 hd4 nP (exT_ok he4 hz4 hd4)
      | false =>
        show wpAny _ X.A (handleBy (.ref a) X.env []) _ _ _
        refine wpAny_handleBy_nil ?_
        obtain ⟨k1, k2, k3, oe, vs, T, oT, ts', he, hz, hd, h1, hr⟩ := id fl3
        unfold PySem.passOn
        refine wpAny_bind (wpAny_field he hd h1 ?_)
        rw [if_neg (show ¬ ((Value.ref T == Value.none) = true) from by simp)]
        have q3 : W (.ref (He.ga X.K c)) d σ' H' := by
          rw [ex] at q1
          unfold onExc at q1
          dsimp only at q1
          rw [hct] at q1
          exact q1 g1 σ' H' _ d (GLe.refl _) L1 (ex ▸ r1)
        have fin : wpAny (model X.prog X.w) X.A (setFlight (.ref a) X.env.frame) (fun _ s4 => wpAny (model X.prog X.w) X.A (throw (.ref a) : Sem Flow) (SP X pins D) X.xe s4) X.xe { s' with heap := h3 } := by
          rw [hf]
          refine HandSPX.setFlight_upZ fl3 fun h4 hh4 up4 => wpAny_throw (tk.tk _ _ ?_)
          exact ⟨a, B, sI, pins, σ', H', _, d, rfl, J, nb, (up.trans up3).trans up4, .inr (.inr (by rw [hs]; exact hh4)), na, os, ag, q3⟩
        first
          | exact wpAny_bind (wpAny_pure (wpAny_bind fin))
          | exact wpAny_bind fin
  refine wpAny_Try_except (wpAny_mono (((hb (X.pn ++ pins) xe hpo).run t W' ⟨land, fun z1 z2 f c h => tk.lam z1 z2 f c h⟩).run [] s σ H D (I.toTry _) ⟨g, st, L, qb⟩) (fun f s1 hsp => ?_) fun e s1 he => by rw [hxe] at he; exact he)
  cases f with
  | next => obtain ⟨σ', H', J', q⟩ := hsp; exact wpAny_execs_nil ⟨σ', H', J'.ofTry ok, q⟩
  | brk => obtain ⟨σ', H', J', q⟩ := hsp; exact ⟨σ', H', J'.ofTry ok, q⟩
  | cont => obtain ⟨σ', H', J', q⟩ := hsp; exact ⟨σ', H', J'.ofTry ok, q⟩
  | ret u => obtain ⟨v, σ', H', J', r, q⟩ := hsp; exact ⟨v, σ', H', J'.ofTry ok, r, q⟩⟩⟩
end
end Zw

namespace Zw
open PySem L2 PyProof.Rows PySem.Spec ClX
/-! ### raise C(..) -/
theorem Reps.rev {K : PySem.W.Frag} {P : Hp} {io : List Addr} {vs : List V} {ds : List Dat} (r : Reps K P io vs ds) : Reps K P io vs.reverse ds.reverse := by
  induction vs generalizing ds with
  | nil => cases r; exact .nil
  | cons v vs ih =>
    cases r with
    | cons r1 r2 =>
      rw [List.reverse_cons, List.reverse_cons]
      exact (ih r2).append (.cons r1 .nil)
theorem exFs_fst {α : Type} {qs : List Str} {vs : List α} (h : vs.length = qs.length) : (exFs qs vs).map (·.1) = qs.reverse := by
  unfold exFs
  rw [List.map_reverse, ← List.unzip_fst, List.unzip_zip (h := h.symm)]
theorem exFs_snd {α : Type} {qs : List Str} {vs : List α} (h : vs.length = qs.length) : (exFs qs vs).map (·.2) = vs.reverse := by
  unfold exFs
  rw [List.map_reverse, ← List.unzip_snd, List.unzip_zip (h := h.symm)]
def En.xmk (E : En) (c : Str) (ds : List Dat) : Option Dat := match E.ex c with
  | some xi => if ds.length = xi.qs.length then some (.exc c (exFs xi.qs ds)) else none
  | none => none
def En.raiseS (E : En) (c : Str) (ds : List Dat) : MS := fun s => match E.xmk c ds with
  | some x => .exc x s
  | none => .stuck
section
variable {X : Cx} {E : En} {k : Nat}
theorem upd_made {H : Hp} {a d : Addr} {o1 o2 o3 o : HO} (ha : H a = none) : upd (del (upd (upd (upd H a o1) d o2) a o3) a) d o = upd H d o := by
  funext b
  by_cases q : b = d
  · subst q; rw [upd_same, upd_same]
  · rw [upd_ne q, upd_ne q]
    by_cases z : b = a
    · subst z; rw [del_same, ha]
    · rw [del_ne z, upd_ne z, upd_ne q, upd_ne z]
theorem raises_ex (N : EnOk (md X) k E) {c : Str} {xi : ExI} (e : E.ex c = some xi) : Raises X (.ref (He.ga X.K c)) := raises_own (N.ex c xi e).cls.hs (N.ex c xi e).ty
/-- the class has an __init__ of its own -/
theorem gs_raise {c : Str} {xi : ExI} {adr : PySem.W.Frag → Addr} {e : Expr} {es : List Expr} {ma : M (List Dat)} {p p1 pos : Pos} (N : EnOk (md X) k E) (hx : E.ex c = some xi) (hadr : xi.adr = some adr) (hr : Room (k + 2) X.A) (hc : X.calm = true) (hg : Gl X c) (hdb : (c == ("__debug__" : Str)) = false) (hs : noStar (e :: es) = true)
    (ha : GA X (e :: es) ma) : GS X (.Raise (some (.Call (.Name c p) (e :: es) [] p1)) none pos) (bndS ma (E.raiseS c)) := ⟨fun t W tk => by
  have O := N.ex c xi hx
  have M := O.made
  rw [hadr] at M
  obtain ⟨hq, hl9, T, iC, tI, fd, s0, F1, hb⟩ := M
  obtain ⟨h1, h2⟩ := star_cons (env := X.env) hs
  refine PS.imp (ps_raise hc tk.tk (pmk_oex (CX := CX X.prog X.w) (k := k + 1) (ds := []) (dvs := []) (p := p) (pos := p1) T iC tI F1 hr.rm hb .nil (passes_call (W := fun _ _ _ _ => False) ?_ fun _ _ _ _ z => z.elim) hg O.glo (ha.run t W tk) hdb h1 (star_any h2))) fun D σ H ⟨g, s, L, q⟩ => ?_
  · intro u s' x
    obtain ⟨_, _, _, _, _, _, _, _, _, _, _, _, _, _, _, _, z⟩ := x
    exact z.elim
  · refine rdS_seq (R := RepsG X.K) (Q1 := fun vs H1 => vs.length ≤ 1000 ∧ ∀ a, H1 a = none → spXi X.K xi.qs (.ref a :: (vs ++ [])) (upd H1 a (exo a (He.ga X.K c) none)) (fun v H2 => v = .non ∧ ∃ (d : Addr) (fs : List (Str × V)), H2 a = some (exo a (He.ga X.K c) (some d)) ∧ H2 d = some (exd d fs) ∧ H1 d = none ∧ W (.ref (He.ga X.K c)) (some d) σ (upd (del H2 a) d (.xd fs))) (fun _ _ _ => False))
      L q fun ds g1 s1 vs H1 ek L1 r q1 => ?_
    unfold En.raiseS En.xmk at q1
    rw [hx] at q1
    dsimp only at q1
    by_cases hl : ds.length = xi.qs.length
    case neg => rw [if_neg hl] at q1; exact q1.elim
    rw [if_pos hl] at q1
    have hv : vs.length = xi.qs.length := by rw [r.length]; exact hl
    refine ⟨by rw [hv]; omega, fun a na => ⟨a, He.ga X.K c, vs, by rw [List.append_nil], hv, T, O.flds, upd_same, fun d nd dne => ⟨rfl, d, exFs xi.qs vs, upd_same, by rw [upd_ne dne, upd_same], ?_, ?_⟩⟩⟩
    · rw [upd_ne dne] at nd; exact nd
    · rw [upd_made na]
      have nd : H1 d = none := by rw [upd_ne dne] at nd; exact nd
      obtain ⟨L2, ek2⟩ := L1.laid (o := .xd (exFs xi.qs vs)) nd
      exact q1 _ σ _ _ _ ek2.le L2 ⟨c, exFs xi.qs ds, rfl, rfl, .inr ⟨d, exFs xi.qs vs, rfl, upd_same, by rw [exFs_fst hl, exFs_fst hv], by rw [exFs_snd hl, exFs_snd hv]; exact (ek2.le.reps r).rev⟩⟩⟩
/-- the class has none -/
theorem gs_raise0 {c : Str} {xi : ExI} {p p1 pos : Pos} (N : EnOk (md X) k E) (hx : E.ex c = some xi) (hadr : xi.adr = none) (hc : X.calm = true) (hg : Gl X c) (hdb : (c == ("__debug__" : Str)) = false) :
    GS X (.Raise (some (.Call (.Name c p) [] [] p1)) none pos) (E.raiseS c []) := ⟨fun t W tk => by
  have O := N.ex c xi hx
  have M := O.made
  rw [hadr] at M
  obtain ⟨hq, hex⟩ := M
  have mk : PMk X (.Call (.Name c p) [] [] p1) (fun _ H Q => Q (.ref (He.ga X.K c)) none H) := by
    intro pins s σ H Q I h
    refine wpAny_Call_Name_kw (ld_glob I hg O.glo (PySem.W.callWith_K0 I.kIn O.kp ?_) hdb)
    show wpAny _ _ (call (.ref (He.ga X.K c)) []) _ _ _
    obtain ⟨bm, N0, nm, qn, bs, hdct, sn, sub, ab, col, dd, k0, k1, k2, k3, k5, mN, hC, hN, hni, T⟩ := exc_obj I.kIn hex
    exact wpAny_call_exc_subT F.excBase_ValueError T hC hN hni (fun h' e hm => mk_of I hm (raises_ex N hx) h (I.hok.gone hm.new)) (Nat.zero_le _)
  refine PS.imp (ps_raise hc tk.tk mk) fun D σ H ⟨g, s, L, q⟩ => ?_
  unfold En.raiseS En.xmk at q
  rw [hx] at q
  dsimp only at q
  rw [hq] at q
  exact q g σ H _ _ (GLe.refl _) L ⟨c, [], rfl, rfl, .inl ⟨rfl, rfl⟩⟩⟩
end
end Zw

namespace Zw
open PySem L2 PyProof.Rows PySem.Spec ClX
section
variable {X : Cx} {E : En} {k : Nat}
/-- an exception's object in the heap -/
theorem exc_at (N : EnOk (md X) k E) {t : Ent} {pins : List (Addr × Obj)} {sh : Shared} {σ : L2.St} {H : Hp} {g : Gh} {s : Sto} {x : V} {c : Str} {fs : List (Str × Dat)} (I : Inv X pins σ H sh) (L : LRel X.K t g s σ H) (r : RepG X.K g x (.exc c fs)) :
    ∃ a oe od, x = .ref a ∧ PySem.W.InstAt sh.heap a oe (He.ga X.K c) od ∧ ∀ f d, fs.lookup f = some d → ∃ v u od', od = some od' ∧ RelV v u ∧ RepG X.K g v d ∧ PySem.W.lookIn f od' = some (some u) := by
  cases r with
  | @exc0 a _ h =>
    have ha : H a = some (exT a (He.ga X.K c) none) := L.gr.sub.at_ h rfl
    obtain ⟨⟨o, vs, e1, e2, e3, e4⟩, _⟩ := I.hok a _ ha
    exact ⟨a, o, none, rfl, ⟨e1, e2, by unfold PySem.W.notCls; rw [e4], by rw [e3]; trivial⟩, fun f d e => by simp at e⟩
  | @exc1 a dx _ fv ds h hd kk r =>
    have ha : H a = some (exT a (He.ga X.K c) (some dx)) := L.gr.sub.at_ h rfl
    have hx : H dx = some (.xd fv) := L.gr.sub.at_ hd rfl
    obtain ⟨⟨o, vs, e1, e2, e3, e4⟩, _⟩ := I.hok a _ ha
    obtain ⟨mA, hns, hr⟩ := (show ∃ mA, sh.heap.Ns1 dx mA ∧ ∀ f, RelO (fv.lookup f) (mA f) from I.hok dx _ hx)
    obtain ⟨od, ho, hl⟩ := lookIn_ns hns
    refine ⟨a, o, some od, rfl, ⟨e1, e2, by unfold PySem.W.notCls; rw [e4], by rw [e3]; exact ho⟩, fun f d e => ?_⟩
    obtain ⟨v, h1, h2⟩ := (lookup_rep (f := f) kk r).1 d e
    obtain ⟨u, hu, ru⟩ := RelO.some_of (v := v) (o := mA f) (by rw [← h1]; exact hr f)
    exact ⟨v, u, od, rfl, ru, h2, by rw [hl, hu]⟩
/-! ### e.f -/
def En.getX (E : En) (x : Dat) (f : Str) : M Dat := match x with
  | .exc c fs => (match E.ex c with
    | some xi => if f ∈ xi.qs then (match fs.lookup f with
      | some d => pur d
      | none => fail) else fail
    | none => fail)
  | _ => E.get x f
theorem vop_getX (N : EnOk (md X) k E) (hr : Room (k + 1) X.A) {f : Str} {b : Bool} : VOp X (fun us => match us with | [u] => getAttr u f b | _ => pure .none) (fun ds => match ds with | [x] => E.getX x f | _ => fail) := by
  intro t W tk pins sh σ H g s xs us ds Q I rv L r q
  match xs, us, ds, rv, r, q with
  | [x], [u], [d], .cons r1 .nil, .cons p1 .nil, q =>
    dsimp only at q ⊢
    by_cases hx : ∃ c fs, d = .exc c fs
    · obtain ⟨c, fs, rfl⟩ := hx
      obtain ⟨a, oe, od, rfl, J, at_⟩ := exc_at N I L p1
      unfold En.getX at q
      dsimp only at q
      cases ex : E.ex c with
      | none => rw [ex] at q; exact q.elim
      | some xi =>
        rw [ex] at q
        dsimp only at q
        by_cases hf : f ∈ xi.qs
        case neg => rw [if_neg hf] at q; exact q.elim
        rw [if_pos hf] at q
        cases el : fs.lookup f with
        | none => rw [el] at q; exact q.elim
        | some d =>
          rw [el] at q
          obtain ⟨v, w, od', rfl, ru, rp, lk⟩ := at_ f d el
          have O := N.ex c xi ex
          obtain rfl : u = Value.ref a := r1
          exact HandSPX.exc_get I.kIn J O.cls.hg O.cls.hk O.cls.hs (PySem.W.findObj_own O.cls.hd (O.flds f hf) rfl lk) (handed_of ru) ⟨v, H, I.tok _, ru, at_here L q rp⟩
    · have e : E.getX d f = E.get d f := by
        cases d <;> first | rfl | exact absurd ⟨_, _, rfl⟩ hx
      rw [e] at q
      exact vop_get N hr t W tk pins sh σ H g s [x] [u] [d] Q I (.cons r1 .nil) L (.cons p1 .nil) q
  | [], _, _, .nil, .nil, q => exact q.elim
  | _ :: _ :: _, _, _, .cons _ (.cons _ _), .cons _ (.cons _ _), q => exact q.elim
/-! ### isinstance with exceptions -/
def En.isX (E : En) (xi : ExI) : Dat → Option Bool
  | .cls c' => if (E.ex c').isSome = true then some (decide (c' ∈ xi.sup)) else if (E.cl c').isSome = true then some false else none
  | .ty T => if T = "ValueError" then some true else if T ∈ plainTys then some false else none
  | _ => none
def En.noX (E : En) (x : Dat) : Bool := match x.typ with
  | some (.pl T) => decide (T ∈ plainTys)
  | some (.own c) => (E.cl c).isSome
  | none => false
def En.rIsZ (E : En) (x d : Dat) : Option (M Dat) := match d with
  | .cls c' => if (E.ex c').isSome = true ∧ E.noX x = true then some (pur (.bl false)) else none
  | _ => none
def En.rIsX (E : En) : Rule := fun ds => match ds with
  | [x, d] => (match x with
    | .exc c _ => (match E.ex c with
      | some xi => (E.isX xi d).map fun b => pur (.bl b)
      | none => none)
    | x => E.rIsZ x d)
  | _ => none
theorem rIsX_z {x d : Dat} (h : ¬ ∃ c fs, x = .exc c fs) : E.rIsX [x, d] = E.rIsZ x d := by
  cases x <;> first | rfl | exact absurd ⟨_, _, rfl⟩ h
theorem ve_meta : PySem.W.kitMeta "ValueError" = true := by kernel_rfl
theorem cls_some {K : PySem.W.Frag} {C : Addr} (h : PySem.W.hasDictIn K C = true) : (PySem.W.clsIn K C).isSome = true := by
  obtain ⟨cd, hc, _⟩ := PySem.W.any_some h
  rw [hc]; rfl
theorem ok_isX (N : EnOk (md X) k E) : ROk X (fun us => call (.builtin "isinstance") us) E.rIsX := fun t W tk pins sh σ H g s xs us ds m Q e I rv L rp q => by
  have ic : ∀ {c xi}, E.ex c = some xi → ((PySem.W.clsIn X.K (He.ga X.K c)).isSome && PySem.W.typeIn X.K (.ref (He.ga X.K c)) == some (.type "type")) = true := fun {c xi} h => by
    have O := N.ex c xi h
    rw [show PySem.W.typeIn X.K (.ref (He.ga X.K c)) = some (.type "type") from O.ty, cls_some O.cls.hd]
    rfl
  have two : ∀ {c xi c' xi'}, E.ex c = some xi → E.ex c' = some xi' → PySem.W.kitOne X.K (.ref (He.ga X.K c)) (.ref (He.ga X.K c')) = some (decide (c' ∈ xi.sup)) := fun {c xi c' xi'} h h' => by
    have sb := (N.ex c xi h).sub c' xi' h'
    by_cases z : Value.ref (He.ga X.K c) = Value.ref (He.ga X.K c')
    · have s2 := (N.ex c xi h).sub c xi h
      have z2 : He.ga X.K c = He.ga X.K c' := Value.ref.inj z
      have z3 : decide (c' ∈ xi.sup) = decide (c ∈ xi.sup) := by
        have sb : PySem.W.subIn X.K (.ref (He.ga X.K c)) (.ref (He.ga X.K c')) = some (decide (c' ∈ xi.sup)) := sb
        have s2 : PySem.W.subIn X.K (.ref (He.ga X.K c)) (.ref (He.ga X.K c)) = some (decide (c ∈ xi.sup)) := s2
        rw [← z2, s2] at sb
        exact (Option.some.inj sb).symm
      rw [z3, decide_eq_true (N.ex c xi h).self]
      unfold PySem.W.kitOne
      rw [if_pos (beq_iff_eq.mpr z)]
    · exact kitOne_ref z (ic h') sb
  match xs, us, ds, rv, rp, e with
  | [x, y], [u, v], [dx, dy], .cons r1 (.cons r2 .nil), .cons p1 (.cons p2 .nil), e =>
    by_cases hx : ∃ c fs, dx = .exc c fs
    · obtain ⟨c, fs, rfl⟩ := hx
      unfold En.rIsX at e
      dsimp only at e
      cases ex : E.ex c with
      | none => rw [ex] at e; cases e
      | some xi =>
        rw [ex] at e
        obtain ⟨b, e1, e2⟩ := Option.map_eq_some_iff.mp e
        subst e2
        have O := N.ex c xi ex
        obtain ⟨a, oe, od, rfl, J, _⟩ := exc_at N I L p1
        obtain rfl : u = Value.ref a := r1
        have key : PySem.W.kitOne X.K (.ref (He.ga X.K c)) v = some b := by
          unfold En.isX at e1
          cases p2 with
          | cls c' =>
            dsimp only at e1
            obtain rfl : v = Value.ref (He.ga X.K c') := r2
            by_cases z : (E.ex c').isSome = true
            · rw [if_pos z] at e1
              cases e1
              obtain ⟨xi', z'⟩ := Option.isSome_iff_exists.mp z
              exact two ex z'
            · rw [if_neg z] at e1
              by_cases z2 : (E.cl c').isSome = true
              · rw [if_pos z2] at e1
                cases e1
                obtain ⟨ci', z'⟩ := Option.isSome_iff_exists.mp z2
                refine kitOne_ref (fun w => ?_) (N.cl c' ci' z').more.ic (O.own c' ci' z').1
                have w2 : He.ga X.K c = He.ga X.K c' := Value.ref.inj w
                have s1 := (O.own c' ci' z').1
                have s2 := O.sub c xi ex
                have s1 : PySem.W.subIn X.K (.ref (He.ga X.K c)) (.ref (He.ga X.K c')) = some false := s1
                have s2 : PySem.W.subIn X.K (.ref (He.ga X.K c)) (.ref (He.ga X.K c)) = some (decide (c ∈ xi.sup)) := s2
                rw [← w2, s2, decide_eq_true O.self] at s1
                cases s1
              · rw [if_neg z2] at e1; cases e1
          | ty T =>
            dsimp only at e1
            obtain rfl : v = Value.type T := r2
            by_cases z : T = "ValueError"
            · rw [if_pos z] at e1
              cases e1
              subst z
              exact kitOne_ty (fun w => by cases w) ve_meta O.ve
            · rw [if_neg z] at e1
              by_cases z2 : T ∈ plainTys
              · rw [if_pos z2] at e1
                cases e1
                exact kitOne_ty (fun w => by cases w) (meta_ok T z2) (O.io T z2).1
              · rw [if_neg z2] at e1; cases e1
          | _ => cases e1
        exact PySem.W.kia_one (PySem.W.kitx_exc (cls_some O.cls.hd) O.cls.hg O.cls.hk O.cls.hs O.cls.ha O.cls.hn O.cls.ht O.cls.hm) I.kIn J key (fun z => by cases z) fun tk' => ⟨.bl b, H, I.tok _, rfl, at_here L q (.bl b)⟩
    · rw [rIsX_z hx] at e
      unfold En.rIsZ at e
      cases p2 with
      | cls c' =>
        dsimp only at e
        obtain rfl : v = Value.ref (He.ga X.K c') := r2
        by_cases z : (E.ex c').isSome = true ∧ E.noX dx = true
        case neg => rw [if_neg z] at e; cases e
        rw [if_pos z] at e
        cases e
        obtain ⟨xi', z'⟩ := Option.isSome_iff_exists.mp z.1
        have O' := N.ex c' xi' z'
        have zn := z.2
        unfold En.noX at zn
        cases et : dx.typ with
        | none => rw [et] at zn; cases zn
        | some T =>
          rw [et] at zn
          have hc : ∀ c, T = .own c → (E.cl c).isSome = true := fun c hT => by subst hT; exact zn
          obtain ⟨Ph, ph, kx⟩ := kit_of N I L r1 p1 et hc
          have key : PySem.W.kitOne X.K (T.val X.K) (.ref (He.ga X.K c')) = some false := by
            cases T with
            | pl T0 => exact kitOne_ref (fun w => by cases w) (ic z') (O'.io T0 (of_decide_eq_true zn)).2
            | own c0 =>
              obtain ⟨ci, ec⟩ := Option.isSome_iff_exists.mp (hc c0 rfl)
              refine kitOne_ref (fun w => ?_) (ic z') (O'.own c0 ci ec).2
              have w2 : He.ga X.K c0 = He.ga X.K c' := Value.ref.inj w
              have s1 : PySem.W.subIn X.K (.ref (He.ga X.K c0)) (.ref (He.ga X.K c')) = some false := (O'.own c0 ci ec).2
              have s2 : PySem.W.subIn X.K (.ref (He.ga X.K c')) (.ref (He.ga X.K c')) = some (decide (c' ∈ xi'.sup)) := O'.sub c' xi' z'
              rw [w2, s2, decide_eq_true O'.self] at s1
              cases s1
          exact PySem.W.kia_one kx I.kIn ph key (rel_nb r1) fun tk' => ⟨.bl false, H, I.tok _, rfl, at_here L q (.bl false)⟩
      | _ => cases e
  | [], _, _, .nil, .nil, e => cases e
  | [_], _, _, .cons _ .nil, .cons _ .nil, e => cases e
  | _ :: _ :: _ :: _, _, _, .cons _ (.cons _ (.cons _ _)), .cons _ (.cons _ (.cons _ _)), e => cases e
end
end Zw

namespace Zw
open PySem L2 PyProof.Rows PySem.Spec ClX
/-! ### an exception's __init__: each parameter becomes a field -/
def okNm (x : Str) : Bool := !(x == ("__debug__" : Str)) && !(x == ("__classdict__" : Str))
theorem okNm_ok {x : Str} (h : okNm x = true) : (x == ("__debug__" : Str)) = false ∧ (x == ("__classdict__" : Str)) = false := by
  unfold okNm at h
  simp only [Bool.and_eq_true, Bool.not_eq_true'] at h
  exact h
def xiB (self : Str) : List Str → List Stmt → Bool
  | [], [] => true
  | q :: qs, .Assign [.Attribute (.Name s _) f _] (.Name p _) _ :: body => decide (s = self) && decide (f = q) && decide (p = q) && okNm q && xiB self qs body
  | _, _ => false
theorem xiB_cons {self q : Str} {qs : List Str} {body : List Stmt} (h : xiB self (q :: qs) body = true) : ∃ p1 p2 p3 p4 body', body = .Assign [.Attribute (.Name self p1) q p2] (.Name q p3) p4 :: body' ∧ okNm q = true ∧ xiB self qs body' = true := by
  unfold xiB at h
  split at h
  · exact absurd (by assumption : q :: qs = []) (by simp)
  · rename_i q' qs' s p1 f p2 p p3 p4 body' e
    cases e
    simp only [Bool.and_eq_true, decide_eq_true_eq] at h
    obtain ⟨⟨⟨⟨e1, e2⟩, e3⟩, h4⟩, h5⟩ := h
    subst e1 e2 e3
    exact ⟨_, _, _, _, _, rfl, h4, h5⟩
  · cases h
theorem exFs_cons {α : Type} (q : Str) (w : α) (qs : List Str) (ws : List α) (fs : List (Str × α)) : exFs (q :: qs) (w :: ws) ++ fs = exFs qs ws ++ (q, w) :: fs := by
  unfold exFs
  rw [List.zip_cons_cons, List.reverse_cons, List.append_assoc]
  rfl
theorem upd_eq {H : Hp} {a : Addr} {o : HO} (h : H a = some o) : upd H a o = H := by
  funext b
  by_cases q : b = a
  · rw [q, upd_same, h]
  · rw [upd_ne q]
section
variable {X : Cx} {self : Str}
theorem xi_rest (h0 : X.N[0]? = some self) (hv0 : Vis X.env.scope self) (ho0 : okNm self = true) (qs : List Str) : ∀ (j : Nat) (body : List Stmt), xiB self qs body = true → (∀ (i : Nat) (q : Str), qs[i]? = some q → X.N[j + i]? = some q ∧ Vis X.env.scope q) →
    PSs X body (fun D σ H => ∃ (a C d : Addr) (fs : List (Str × V)) (ws : List V), OexC X.K C ∧ d ≠ a ∧ (∀ q ∈ qs, PySem.W.findIn X.K (.ref C) q = some none) ∧ σ[0]? = some (some (.ref a)) ∧ ws.length = qs.length ∧ (∀ (i : Nat) (w : V), ws[i]? = some w → σ[j + i]? = some (some w)) ∧
      H a = some (exo a C (some d)) ∧ H d = some (exd d fs) ∧ fs.length + qs.length ≤ 900 ∧ D.nx σ (upd H d (exd d (exFs qs ws ++ fs)))) := by
  obtain ⟨k3, k4⟩ := okNm_ok ho0
  induction qs with
  | nil =>
    intro j body h hn
    cases body with
    | cons _ _ => cases h
    | nil =>
      refine PSs.imp pss_nil fun D σ H ⟨a, C, d, fs, ws, _, _, _, _, hl, _, _, hd, _, q⟩ => ?_
      have e : exFs [] ws ++ fs = fs := by unfold exFs; simp
      rw [e, upd_eq hd] at q
      exact q
  | cons q qs ih =>
    intro j body h hn
    obtain ⟨p1, p2, p3, p4, body', rfl, h4, h5⟩ := xiB_cons h
    · obtain ⟨n1, n2⟩ := hn 0 _ rfl
      obtain ⟨k1, k2⟩ := okNm_ok h4
      refine PSs.imp (pss_cons (ps_ost (pe_var h0 hv0 k3 k4) (pe_var n1 n2 k1 k2)) (ih (j + 1) body' h5 fun i q e => by rw [Nat.add_assoc, Nat.add_comm 1 i]; exact hn (i + 1) q (by simpa using e))) fun D σ H ⟨a, C, d, fs, ws, T, da, hf, s0, hl, hw, ha, hd, hle, fin⟩ => ?_
      cases ws with
      | nil => cases hl
      | cons w ws =>
        have hl : ws.length = qs.length := by simpa using hl
        refine ⟨w, hw 0 w rfl, .ref a, s0, a, C, rfl, T, hf _ List.mem_cons_self, .inr ⟨d, fs, ha, hd, by simp at hle; omega, a, C, d, (_, w) :: fs, ws, T, da, fun q m => hf q (List.mem_cons_of_mem _ m), s0, hl, fun i v e => by rw [Nat.add_assoc, Nat.add_comm 1 i]; exact hw (i + 1) v (by simpa using e), ?_, upd_same, by simp at hle ⊢; omega, ?_⟩⟩
        · rw [upd_ne (Ne.symm da)]; exact ha
        · rw [upd_upd, ← exFs_cons]; exact fin
/-- the whole body -/
theorem xi_body (h0 : X.N[0]? = some self) (hv0 : Vis X.env.scope self) (ho0 : okNm self = true) {qs : List Str} {body : List Stmt} (hq : qs ≠ []) (hl9 : qs.length ≤ 900) (h : xiB self qs body = true) (hn : ∀ (i : Nat) (q : Str), qs[i]? = some q → X.N[1 + i]? = some q ∧ Vis X.env.scope q) :
    PSs X body (fun D σ H => ∃ (a C : Addr) (ws : List V), OexC X.K C ∧ (∀ q ∈ qs, PySem.W.findIn X.K (.ref C) q = some none) ∧ σ[0]? = some (some (.ref a)) ∧ ws.length = qs.length ∧ (∀ (i : Nat) (w : V), ws[i]? = some w → σ[1 + i]? = some (some w)) ∧
      H a = some (exo a C none) ∧ ∀ d, H d = none → d ≠ a → D.nx σ (upd (upd H d (exd d (exFs qs ws))) a (exo a C (some d)))) := by
  obtain ⟨k3, k4⟩ := okNm_ok ho0
  cases qs with
  | nil => exact absurd rfl hq
  | cons q qs =>
    obtain ⟨p1, p2, p3, p4, body', rfl, h4, h5⟩ := xiB_cons h
    · obtain ⟨n1, n2⟩ := hn 0 _ rfl
      obtain ⟨k1, k2⟩ := okNm_ok h4
      refine PSs.imp (pss_cons (ps_ost (pe_var h0 hv0 k3 k4) (pe_var n1 n2 k1 k2)) (xi_rest h0 hv0 ho0 qs 2 body' h5 fun i q e => by rw [show 2 + i = 1 + (i + 1) by omega]; exact hn (i + 1) q (by simpa using e))) fun D σ H ⟨a, C, ws, T, hf, s0, hl, hw, ha, fin⟩ => ?_
      cases ws with
      | nil => cases hl
      | cons w ws =>
        have hl : ws.length = qs.length := by simpa using hl
        refine ⟨w, hw 0 w rfl, .ref a, s0, a, C, rfl, T, hf _ List.mem_cons_self, .inl ⟨ha, fun d nd da => ⟨a, C, d, [(_, w)], ws, T, da, fun q m => hf q (List.mem_cons_of_mem _ m), s0, hl, fun i v e => by rw [show 2 + i = 1 + (i + 1) by omega]; exact hw (i + 1) v (by simpa using e), upd_same, by rw [upd_ne da, upd_same], by simp at hl9 ⊢; omega, ?_⟩⟩⟩
        rw [← exFs_cons, List.append_nil]
        have e : upd (upd (upd H d (exd d [(q, w)])) a (exo a C (some d))) d (exd d (exFs (q :: qs) (w :: ws))) = upd (upd H d (exd d (exFs (q :: qs) (w :: ws)))) a (exo a C (some d)) := by
          funext b
          by_cases z1 : b = d
          · subst z1; rw [upd_same, upd_ne da, upd_same]
          · rw [upd_ne z1]
            by_cases z2 : b = a
            · subst z2; rw [upd_same, upd_same]
            · rw [upd_ne z2, upd_ne z2, upd_ne z1, upd_ne z1]
        rw [e]
        exact fin d nd da
theorem xi_fn {D : Md} {f : Addr} {fd : FuncData} {N qs : List Str} {k : Nat} {body : List Stmt} {scope : Scope} {x qual : Str} {params : Arguments} {dvs : List V} {kws : List (Str × V)} (F : FunD D.K x qual params body scope dvs kws f fd) (S : FnScope N (self :: qs) scope) (hlen : qs.length + 1 ≤ N.length)
    (ho0 : okNm self = true) (hq : qs ≠ []) (hl9 : qs.length ≤ 900) (h : xiB self qs body = true) : L2.FnOk D.P D.w D.K D.mg D.base (CX D.P D.w) (k + 1) f fd (self :: qs) (spXi D.K qs) := by
  obtain ⟨oc, od, dV, kV, doc, pm, an, cdv, ct, osl, rfl, lk, hcd, _, _⟩ := F.ex
  have nat : ∀ (i : Nat) (q : Str), (self :: qs)[i]? = some q → N[i]? = some q := fun i q e => by
    have z := S.pre
    have : (N.take (self :: qs).length)[i]? = some q := by rw [z]; exact e
    rw [List.getElem?_take] at this
    split at this
    · exact this
    · cases this
  have vis : ∀ q ∈ self :: qs, Vis scope q := fun q m => (S.par q m).elim .inl fun z => .inr (.inl z)
  refine L2.fn_of lk hcd S (fun vs H Q E ⟨a, C, ws, e, hl, _⟩ => by rw [e]; simp [hl]) fun A outer s H vs Q E hr ⟨a, C, ws, e, hl, T, hf, ha, fin⟩ => ?_
  subst e
  refine ⟨_, xi_body (X := cxOf (CX D.P D.w) D.P D.w D.K D.mg D.base N qual scope f cdv A outer s H E) (nat 0 self rfl) (vis self List.mem_cons_self) ho0 hq hl9 h (fun i q e => ⟨nat (1 + i) q (by rw [Nat.add_comm]; simpa using e), vis q (List.mem_cons_of_mem _ (List.mem_of_getElem? e))⟩), a, C, ws, T, hf, ?_, hl, fun i w e => ?_, ha, fin⟩
  · unfold L2.start
    rw [List.getElem?_append_left (by simp)]
    rfl
  · unfold L2.start
    have hi := (List.getElem?_eq_some_iff.mp e).1
    rw [List.getElem?_append_left (by simp; omega), List.getElem?_map, Nat.add_comm, List.getElem?_cons_succ, e]
    rfl
end
end Zw

namespace Zw
open PySem L2 PyProof.Rows PySem.Spec ClX
/-! ### a lambda is made -/
theorem set_same {α : Type} {l : List α} {n : Nat} {x : α} (h : l[n]? = some x) : l.set n x = l := by
  apply List.ext_getElem?
  intro i
  by_cases q : n = i
  · subst q
    rw [List.getElem?_set_self (List.getElem?_eq_some_iff.mp h).1, h]
  · rw [List.getElem?_set_ne q]
section
variable {X : Cx} {pins : List (Addr × Obj)} {σ : L2.St} {H : Hp} {s : Shared} {g : Gh} {st : Sto} {t : Ent}
theorem lam_new {n : Nat} {pth : Str × Option Str} {c : Addr} {params : Arguments} {body : Expr} {scope : Scope} {pos : Pos} {E : Value → Shared → Prop} {Q : Value → Shared → Prop} (I : Inv X pins σ H s) (L : LRel X.K t g st σ H) (TB : LamX.TabB X.base X.mg c (tabP pth X.K)) (hcode : X.env.code = .ref c)
    (hc : st.cs[n]? = some (some (.tab pth (X.env.qual ++ "<lambda>")))) (hdef : defaultsOf params X.env = ([], [])) (hfree : ∀ y ∈ scope.names, y.2 = .free → ∃ c, X.env.cells.lookup y.1 = some c)
    (h : ∀ (f c' : Addr) (pm ctv : Value) (g1 : Gh) (H1 : Hp) (s' : Shared), Inv X pins σ H1 s' → EK [] g st.cs H g1 st.cs H1 → LRel X.K t g1 st σ H1 → s'.heap.get? f = some (PySem.W.kla_obj "<lambda>" (X.env.qual ++ "<lambda>") params body scope (cloFrom X.env.cells scope.names []) pm c' ctv) → H1 f = none → f ∉ frs X.stack → g1.P c' = some (LamX.CodeO c' (X.env.qual ++ "<lambda>")) → Q (.ref f) s') :
    wpAny (model X.prog X.w) X.A (eval (.Lambda params body scope pos) X.env) Q E s := by
  have hn : n < g.io.length := by rw [L.gr.len]; exact (List.getElem?_eq_some_iff.mp hc).1
  obtain ⟨a, hi⟩ : ∃ a, g.io[n]? = some a := ⟨_, List.getElem?_eq_getElem hn⟩
  obtain ⟨p1, e0, ps, hH, hps, at_⟩ := L.gr.cell n _ a hc hi
  subst e0
  have nofr : ∀ f, s.heap.objs.size ≤ f → f ∉ frs X.stack := fun f hf z => by
    rcases List.mem_cons.mp (I.stkSub _ z) with e | e
    · have h1 := I.lt
      rw [← e] at h1
      exact Nat.lt_irrefl _ (Nat.lt_of_lt_of_le h1 hf)
    · exact I.nofs hf e
  have bP : s.heap.BuiltinsAt X.mg (tabP pth X.K) := TB.bm.keeps I.bk
  have hP' : s.heap.get? (tabP pth X.K) = some { cls := .none, data := .fields ps } := I.hok _ _ hH
  refine PySem.W.kla_eval hdef ?_
  cases hcA : codeAmong pos ps.toList with
  | some cv =>
    obtain ⟨c', e, hco⟩ := at_ pos cv hcA
    subst e
    refine PySem.W.kla_makeFunctionHit (mg := X.mg) (c := c) (P := tabP pth X.K) (ps := ps) (closure_ok hfree) I.ok.glob (I.mod.glob.keeps I.bk) hcode (TB.code.keeps I.bk) hP' hps hcA bP fun ctv h' tk hx hsz => ?_
    exact h h'.objs.size c' _ ctv g H _ (I.kept fun b o e => Heap.get?_push_of_some _ (hx b o e)) (EK.refl _ _ _) L (Heap.get?_push_size _ rfl) (I.hok.fresh hsz) (nofr _ hsz) hco
  | none =>
    refine PySem.W.kla_makeFunction (mg := X.mg) (c := c) (P := tabP pth X.K) (ps := ps) (closure_ok hfree) I.ok.glob (I.mod.glob.keeps I.bk) hcode (TB.code.keeps I.bk) hP' hps hcA TB.gP bP fun c' ctv h' tk hx hge hlt hrec htb => ?_
    obtain ⟨c2, oc, vs, tk2, e2, hoc, hd, hv⟩ := hrec
    cases e2
    have hsz : s.heap.objs.size ≤ h'.objs.size := by omega
    have nC : H c' = none := I.hok.fresh hge
    have I1 := LamX.inv_table (t' := tk) (more := #[rawInt pos.line, rawInt pos.col, .ref c']) (h' := h'.push (PySem.W.kla_obj "<lambda>" (X.env.qual ++ "<lambda>") params body scope (cloFrom X.env.cells scope.names []) ((X.mg "__name__").getD .none) c' ctv)) I hH
      (fun b o hb e => Heap.get?_push_of_some _ (hx b o hb e)) (Heap.get?_push_of_some _ htb) hge ⟨oc, vs, tk2, Heap.get?_push_of_some _ hoc, hd, hv⟩
    have cP : c' ≠ tabP pth X.K := (ne_of_none hH nC).symm
    have com : upd (upd H (tabP pth X.K) (.tbl (ps ++ #[rawInt pos.line, rawInt pos.col, .ref c']))) c' (LamX.CodeO c' (X.env.qual ++ "<lambda>")) = upd (upd H c' (LamX.CodeO c' (X.env.qual ++ "<lambda>"))) (tabP pth X.K) (.tbl (ps ++ #[rawInt pos.line, rawInt pos.col, .ref c'])) := by
      funext b
      by_cases z1 : b = c'
      · subst z1; rw [upd_same, upd_ne cP, upd_same]
      · rw [upd_ne z1]
        by_cases z2 : b = tabP pth X.K
        · subst z2; rw [upd_same, upd_same]
        · rw [upd_ne z2, upd_ne z2, upd_ne z1]
    obtain ⟨L1, ek1⟩ := L.laid (o := LamX.CodeO c' (X.env.qual ++ "<lambda>")) nC
    have eL : (ps ++ #[rawInt pos.line, rawInt pos.col, .ref c']).toList = ps.toList ++ [rawInt pos.line, rawInt pos.col, .ref c'] := by simp
    have L2 := L1.setCell (d := .tab pth (X.env.qual ++ "<lambda>")) (o := .tbl (ps ++ #[rawInt pos.line, rawInt pos.col, .ref c'])) hc hi ⟨rfl, _, upd_same, by rw [eL]; exact PySem.TriplesOk_snoc _ _ _ _ hps, fun p' cv hcv => by
      rw [eL] at hcv
      rcases LamX.among_app _ hps hcv with z | z
      · obtain ⟨c0, k1, k2⟩ := at_ p' cv z
        exact ⟨c0, k1, ek1.le.p _ _ k2⟩
      · exact ⟨c', z, upd_same⟩⟩
    rw [set_same hc, ← com] at L2
    rw [← com] at *
    have lv : Live g st.cs (tabP pth X.K) := ⟨n, _, hc, hi⟩
    have ek : EK [] g st.cs H ⟨upd g.P c' (LamX.CodeO c' (X.env.qual ++ "<lambda>")), g.io⟩ st.cs (upd (upd H (tabP pth X.K) (.tbl (ps ++ #[rawInt pos.line, rawInt pos.col, .ref c']))) c' (LamX.CodeO c' (X.env.qual ++ "<lambda>"))) := by
      refine ⟨ek1.le, fun b u e nl _ => ?_, fun b u e => ?_, fun b z => .inl z, fun b z => .inl z⟩
      · have nb : b ≠ tabP pth X.K := fun z => nl (by rw [z]; exact lv)
        rw [upd_ne (ne_of_none e nC), upd_ne nb]; exact e
      · by_cases z : b = tabP pth X.K
        · subst z; exact ⟨_, by rw [upd_ne cP.symm, upd_same]⟩
        · exact ⟨u, by rw [upd_ne (ne_of_none e nC), upd_ne z]; exact e⟩
    refine h h'.objs.size c' _ ctv _ _ _ I1 ek L2 (Heap.get?_push_size _ rfl) ?_ (nofr _ hsz) upd_same
    rw [upd_ne (Nat.ne_of_gt hlt), upd_ne (Nat.ne_of_gt (Nat.lt_of_lt_of_le (Heap.lt_size hP') hsz))]
    exact I.hok.fresh hsz
end
end Zw

namespace Zw
open PySem L2 PyProof.Rows PySem.Spec ClX
/-! ### a lambda that was handed in is called -/
/-- what the lambda sees of its maker's slots -/
def capE (fr : List Nat) (env : List Slot) : List Slot := env.mapIdx fun i x => if i ∈ fr then (match x with
  | .val d => .val d
  | _ => .unset) else .unset
def lamCon (mb : M Dat) (env : List Slot) : LCon := fun cs => match mb ⟨env, cs⟩ with
  | .ret d s' => .ret d s'.cs
  | .exc x s' => .exc x s'.cs
  | .stuck => .stuck
theorem capE_at {fr : List Nat} {env : List Slot} {i : Nat} {x : Slot} (h : (capE fr env)[i]? = some x) : x = .unset ∨ ∃ d, x = .val d ∧ env[i]? = some (.val d) := by
  unfold capE at h
  rw [List.getElem?_mapIdx] at h
  cases e : env[i]? with
  | none => rw [e] at h; cases h
  | some y =>
    rw [e] at h
    simp only [Option.map_some, Option.some.injEq] at h
    by_cases z : i ∈ fr
    · rw [if_pos z] at h
      cases y with
      | val d => exact .inr ⟨d, h.symm, rfl⟩
      | _ => exact .inl h.symm
    · rw [if_neg z] at h; exact .inl h.symm
theorem lrel_cap {K : PySem.W.Frag} {t : Ent} {g g2 : Gh} {s : Sto} {σ : L2.St} {H H2 : Hp} {cs2 : List (Option Dat)} {fr : List Nat} (L : LRel K t g s σ H) (l : GLe g g2) (gr : GRel K g2 cs2 H2) : LRel K ⟨[], g2, cs2, H2, fun _ _ => False⟩ g2 ⟨capE fr s.env, cs2⟩ σ H2 := by
  refine ⟨fun a z => by simp at z, gr, GExt.refl _ _ _, by show (capE fr s.env).length = _; unfold capE; rw [List.length_mapIdx]; exact L.len, fun i d e => ?_, fun i d e => ?_, fun i d e => ?_, fun i j a d e z => ?_, fun i j d e z => ?_, fun i c e => ?_⟩
  · rcases capE_at e with z | ⟨d', z, e'⟩
    · cases z
    · cases z
      obtain ⟨v, h1, h2⟩ := L.val i d e'
      exact ⟨v, h1, l.rep h2⟩
  · rcases capE_at e with z | ⟨d', z, e'⟩ <;> cases z
  · rcases capE_at e with z | ⟨d', z, e'⟩ <;> cases z
  · rcases capE_at z with z | ⟨d', z, e'⟩ <;> cases z
  · rcases capE_at z with z | ⟨d', z, e'⟩ <;> cases z
  · rcases capE_at e with z | ⟨d', z, e'⟩ <;> cases z
section
variable {X : Cx} {pins : List (Addr × Obj)} {σ : L2.St} {H : Hp} {s : Shared} {g : Gh} {st : Sto} {t : Ent}
theorem lam_callable {f fg c' : Addr} {params : Arguments} {body : Expr} {scope : Scope} {pm ctv : Value} {k : Nat} {mb : M Dat} {fr : List Nat} {Ec : XK} {Xc : Cx} {tc : Ent} (I : Inv X pins σ H s) (L : LRel X.K t g st σ H) (LS : LamX.LamS X.env.scope scope)
    (hf : s.heap.get? f = some (PySem.W.kla_obj "<lambda>" (X.env.qual ++ "<lambda>") params body scope (cloFrom X.env.cells scope.names []) pm c' ctv)) (hfn : H f = none) (hfr : f ∉ frs X.stack) (hco : g.P c' = some (LamX.CodeO c' (X.env.qual ++ "<lambda>")))
    (hbind : bindArgs (PySem.W.kla_fn "<lambda>" (X.env.qual ++ "<lambda>") params body scope (cloFrom X.env.cells scope.names []) pm (.ref c') ctv) ⟨[], []⟩ = pure [])
    (hX : CalleeCx (md X) fg X.A X.stack s H Ec Xc) (hr : Room (k + 1) Xc.A) (hb : ∀ (A : Around) (outer : List Env) (s2 : Shared) (H2 : Hp) (E2 : XK), Room k (A.deeper (LamX.lamEnv X scope s2.heap.objs.size f c')) → GE (LamX.lamCx X A outer s2 H2 E2 scope f c') body mb) (htc : tc.g = g) :
    Callable Xc tc f (lamCon mb (capE fr st.env)) := by
  obtain ⟨N, qg, sg, cdg, rfl⟩ := hX
  intro pn xe W tk pinsZ sZ σZ HZ Q gZ csZ pos IZ grZ leZ q
  rw [htc] at leZ
  have of1 : sZ.heap.get? f = some (PySem.W.kla_obj "<lambda>" (X.env.qual ++ "<lambda>") params body scope (cloFrom X.env.cells scope.names []) pm c' ctv) := IZ.base.keep f _ hf hfn hfr (fun z => nomatch (show f ∈ ([] : List Addr) from z))
  have un : Un (frs X.stack) [] H HZ s.heap sZ.heap := IZ.base
  have hcZ : HZ c' = some (LamX.CodeO c' (X.env.qual ++ "<lambda>")) := grZ.sub.at_ (leZ.p _ _ hco) rfl
  obtain ⟨⟨oc, vs, tt, hoc, hdc, hvc⟩, _, _⟩ := IZ.hok c' _ hcZ
  refine PySem.W.callWith_F0 (env := X.env) ⟨_, _, _, _, of1⟩ ?_
  have rc : codeAny (model X.prog X.w) (X.A.deeper (envOfC qg sg s.heap.objs.size fg cdg)) (.call (.ref f) ⟨[], []⟩) (CR (L2.CX X.prog X.w) (envOfC qg sg s.heap.objs.size fg cdg :: X.stack) X.prog X.w HZ sZ Q (fun cls d H' => W cls d σZ H')) sZ := by
    refine PySem.W.kla_callFunE hr.depth of1 rfl LS.co LS.gen rfl ⟨c', oc, vs, tt, rfl, hoc, hdc, hvc⟩ ?_
    rw [hbind]
    refine wpAny_pure (wpAny_newFunctionEnv (fun y hy => (LS.own y hy).2) (fun y hy => absurd hy (by simp)) (fun h₁ hns hsb => ⟨IZ.nolimit.fresh _ hsb, ?_⟩) LS.kind)
    show codeAny _ _ (.expr body (LamX.lamEnv X scope sZ.heap.objs.size f c')) _ _
    have kp : ∀ b o, sZ.heap.get? b = some o → h₁.get? b = some o := fun b o e => hsb.extBut b o (Nat.ne_of_lt (Heap.lt_size e)) (Heap.get?_push_of_some _ e)
    have J : Inv (LamX.lamCx X (X.A.deeper (envOfC qg sg s.heap.objs.size fg cdg)) (envOfC qg sg s.heap.objs.size fg cdg :: X.stack) sZ HZ (fun cls d H' => W cls d σZ H') scope f c') [] σ HZ { sZ with heap := h₁, toks := sZ.toks + ([] : List (Str × Value)).length } := LamX.lam_start2 I LS IZ.env0 hr.hd un hns kp
    have body_run := (hb (X.A.deeper (envOfC qg sg s.heap.objs.size fg cdg)) (envOfC qg sg s.heap.objs.size fg cdg :: X.stack) sZ HZ (fun cls d H' => W cls d σZ H') (hr.deeper _)).run ⟨[], gZ, csZ, HZ, fun _ _ => False⟩ (fun cls d _ H' => W cls d σZ H') ⟨takes_of rfl rfl rfl rfl, fun _ _ _ _ z => z.elim⟩
    have aq : atE X.K ⟨[], gZ, csZ, HZ, fun _ _ => False⟩ (fun cls d _ H' => W cls d σZ H') gZ ⟨capE fr st.env, csZ⟩ σ HZ (mb ⟨capE fr st.env, csZ⟩) Q := by
      unfold lamCon at q
      revert q
      cases mb ⟨capE fr st.env, csZ⟩ with
      | ret d s' => exact fun q g' v H' _ L' r' => q g' v H' L'.ex L'.gr r'
      | exc x s' => exact fun q g' H' cls dd _ L' r' => q g' H' cls dd L'.ex L'.gr r'
      | stuck => exact fun q => q
    refine PySem.W.kla_codeExpr (wpAny_mono (body_run.run [] _ σ HZ Q J ⟨gZ, _, lrel_cap L leZ grZ, aq⟩) (fun v s' hq => ?_) fun e s' hq => hq)
    obtain ⟨w', H', J', rv, q'⟩ := hq
    exact ⟨w', H', J'.os, J'.bare, J'.base, J'.hok, rv, q'⟩
  refine wpAny_call (codeAny_mono rc fun r s' hq => ?_)
  cases r with
  | error e => exact passAt tk σZ pinsZ HZ sZ e s' IZ hq
  | ok fl =>
    cases fl with
    | ret u => exact IZ.after hq
    | next => exact False.elim hq
    | brk => exact False.elim hq
    | cont => exact False.elim hq
end
end Zw

namespace Zw
open PySem L2 PyProof.Rows PySem.Spec ClX
/-! ### f(lambda: ..) -/
def noPar : Arguments := ⟨[], [], none, [], [], none, []⟩
/-- the def is handed the lambda: n, the cell of the maker's table -/
def lamM (E : En) (x : Str) (n : Nat) (p : Str × Option Str) (q : Str) (fr : List Nat) (mb : M Dat) : M Dat := fun s => match s.cs[n]? with
  | some (some (.tab p' q')) => if p' = p ∧ q' = q then (match E.lamf x with
    | some li => (match li.con (lamCon mb (capE fr s.env)) s.cs with
      | .ret d cs' => .ret d ⟨s.env, cs'⟩
      | .exc y cs' => .exc y ⟨s.env, cs'⟩
      | .stuck => .stuck)
    | none => .stuck) else .stuck
  | _ => .stuck
section
variable {X : Cx} {E : En} {k kl : Nat}
theorem ge_lamcall {x : Str} {n : Nat} {pth : Str × Option Str} {q : Str} {fr : List Nat} {mb : M Dat} {body : Expr} {scope : Scope} {p lpos pos : Pos} (N : EnOk (md X) k E) (hr : Room k X.A) (hk : kl + 4 ≤ k) (hg : Gl X x) (hdb : (x == ("__debug__" : Str)) = false) (TB : LamX.TabB X.base X.mg (codeP pth X.K) (tabP pth X.K)) (hcode : X.env.code = .ref (codeP pth X.K))
    (hq : X.env.qual ++ "<lambda>" = q) (LS : LamX.LamS X.env.scope scope) (hb : ∀ (f c' : Addr) (A : Around) (outer : List Env) (s2 : Shared) (H2 : Hp) (E2 : XK), Room (kl + 2) (A.deeper (LamX.lamEnv X scope s2.heap.objs.size f c')) → GE (LamX.lamCx X A outer s2 H2 E2 scope f c') body mb) :
    GE X (.Call (.Name x p) [.Lambda noPar body scope lpos] [] pos) (lamM E x n pth q fr mb) := by
  refine GE.of fun t W tk pins sh σ H g s Q I L qq => ?_
  unfold lamM at qq
  subst hq
  cases ec : s.cs[n]? with
  | none => rw [ec] at qq; exact qq.elim
  | some o =>
    rw [ec] at qq
    cases o with
    | none => exact qq.elim
    | some d =>
      cases d with
      | tab p' q' =>
        dsimp only at qq
        by_cases z : p' = pth ∧ q' = X.env.qual ++ "<lambda>"
        case neg => rw [if_neg z] at qq; exact qq.elim
        rw [if_pos z] at qq
        obtain ⟨rfl, rfl⟩ := z
        cases el : E.lamf x with
        | none => rw [el] at qq; exact qq.elim
        | some li =>
          rw [el] at qq
          dsimp only at qq
          obtain ⟨⟨k', rfl, lf⟩, hm, hkp⟩ := N.lamf x li el
          refine wpAny_Call_Name_kw (ld_glob I hg hm ?_ hdb)
          refine PySem.W.callWith_K (h₀ := X.base) I.ok.mod.kin hkp ?_ (by rfl) (by rfl)
          show wpAny _ _ (spliced ((false, eval (.Lambda noPar body scope lpos) X.env) :: backTo pos (starEach [] X.env))) _ _ sh
          refine Calls.spliced_cons (lam_new I L TB hcode ec rfl (LS.has I.ok) fun f c' pm ctv g1 H1 s' I1 ek1 L1 hf hfn hfr hco => Calls.spliced_nil ⟨I1.kIn, ?_⟩)
          have ro : resOk X.K g1 s.cs H1 (li.con (lamCon mb (capE fr s.env)) s.cs) Q (WE W σ) := by
            revert qq
            cases li.con (lamCon mb (capE fr s.env)) s.cs with
            | ret d cs' => exact fun qq g' v H' e gr r => qq g' v H' (ek1.trans e.toEK) (L1.call e gr) r
            | exc y cs' => exact fun qq g' H' cls dd e gr r => qq g' H' cls dd (ek1.trans e.toEK) (L1.call e gr) r
            | stuck => exact fun qq => qq
          refine wpAny_call (codeAny_mono (lf X.A X.stack s' H1 f Q (WE W σ) g1 s.cs _ hr I1.env0 L1.gr (fun X' hX' hr' => lam_callable (k := kl + 2) I1 L1 LS hf hfn hfr hco rfl hX' (hr'.mono (by omega)) (hb f c') rfl) ro) fun r s2 hq => ?_)
          cases r with
          | error e => exact passAt tk.tk σ pins H1 s' e s2 I1 hq
          | ok fl =>
            cases fl with
            | ret u => exact I1.after hq
            | next => exact False.elim hq
            | brk => exact False.elim hq
            | cont => exact False.elim hq
      | _ => exact qq.elim
/-! ### x(), x a lambda that was handed in -/
def callL (c : LCon) : M Dat := fun s => match c s.cs with
  | .ret d cs' => .ret d ⟨s.env, cs'⟩
  | .exc y cs' => .exc y ⟨s.env, cs'⟩
  | .stuck => .stuck
/-- the slot's lambda; any other value by m -/
def slotCall (i : Nat) (m : M Dat) : M Dat := fun s => match s.env[i]? with
  | some (.lam c) => callL c s
  | _ => m s
theorem ge_slotCall {x : Str} {i : Nat} {m : M Dat} {p pos : Pos} (hs : X.stack = X.env :: X.outer) (hc : X.calm = true) (hN : X.N[i]? = some x) (hv : Vis X.env.scope x) (hd : (x == ("__debug__" : Str)) = false) (hcd : (x == ("__classdict__" : Str)) = false) (hm : GE X (.Call (.Name x p) [] [] pos) m) :
    GE X (.Call (.Name x p) [] [] pos) (slotCall i m) := by
  refine GE.of fun t W tk pins sh σ H g s Q I L q => ?_
  unfold slotCall at q
  by_cases z : ∃ c, s.env[i]? = some (.lam c)
  · obtain ⟨c, e⟩ := z
    rw [e] at q
    obtain ⟨f, h1, h2⟩ := L.lam i c e
    refine wpAny_Call_Name_kw (thn ((pe_var (pos := p) (i := i) hN hv hd hcd).run pins sh σ H (fun v H1 => v = .ref f ∧ H1 = H) I ⟨.ref f, h1, rfl, rfl⟩) fun u s1 ⟨v, H1, I1, r1, q1⟩ => ?_)
    obtain ⟨ev, eH⟩ := q1
    subst ev
    rw [eH] at I1
    obtain rfl : u = Value.ref f := r1
    refine tk.lam hc hs f c h2 X.pn X.xe W tk.tk pins s1 σ H Q g s.cs pos I1 L.gr L.ex.le ?_
    have q : atE X.K t W g s σ H (callL c s) Q := q
    unfold callL at q
    unfold atL
    revert q
    cases c s.cs with
    | ret d cs' => exact fun q g' v H' e gr r => q g' v H' e.toEK (L.call e gr) r
    | exc y cs' => exact fun q g' H' cls dd e gr r => q g' H' cls dd e.toEK (L.call e gr) r
    | stuck => exact fun q => q
  · have q : atE X.K t W g s σ H (m s) Q := by
      revert q
      split
      · rename_i c e; exact absurd ⟨c, e⟩ z
      · exact fun q => q
    exact (hm.run t W tk).run pins sh σ H Q I ⟨g, s, L, q⟩
end
end Zw

namespace Zw
open PySem L2 PyProof.Rows PySem.Spec ClX
/-! ### calls with keywords -/
def kwNames : List Keyword → Option (List Str)
  | [] => some []
  | ⟨some n, _, _⟩ :: kws => (kwNames kws).map fun ks => n :: ks
  | _ => none
theorem kw_facts {env : Env} {pos : Pos} : ∀ {kws : List Keyword} {ks : List Str}, kwNames kws = some ks → (backToKw pos (keywordEach kws env)).all (·.1.isSome) = true ∧ (backToKw pos (keywordEach kws env)).any (·.1.isNone) = false ∧ (backToKw pos (keywordEach kws env)).filterMap (·.1) = ks
  | [], ks, h => by cases h; exact ⟨rfl, rfl, rfl⟩
  | ⟨none, _, _⟩ :: _, ks, h => by cases h
  | ⟨some n, e, p⟩ :: kws, ks, h => by
    obtain ⟨ks', h1, h2⟩ := Option.map_eq_some_iff.mp (show (kwNames kws).map (fun ks => n :: ks) = some ks from h)
    subst h2
    obtain ⟨k1, k2, k3⟩ := kw_facts (env := env) (pos := pos) h1
    refine ⟨?_, ?_, ?_⟩
    · show ((some n).isSome && (backToKw pos (keywordEach kws env)).all (·.1.isSome)) = true
      rw [k1]; rfl
    · show ((some n).isNone || (backToKw pos (keywordEach kws env)).any (·.1.isNone)) = false
      rw [k2]; rfl
    · show n :: (backToKw pos (keywordEach kws env)).filterMap (·.1) = _
      rw [k3]
theorem all2_reps {K : PySem.W.Frag} {g : Gh} : ∀ {vs : List V} {ds : List Dat}, RepsG K g vs ds → All2 (fun d v => RepG K g v d) ds vs
  | _, _, .nil => .nil
  | _, _, .cons r t => .cons r (all2_reps t)
theorem reps_all2 {K : PySem.W.Frag} {g : Gh} : ∀ {vs : List V} {ds : List Dat}, All2 (fun d v => RepG K g v d) ds vs → RepsG K g vs ds
  | _, _, .nil => .nil
  | _, _, .cons r t => .cons r (reps_all2 t)
theorem all2_vals : ∀ {vs : List V} {us : List Value}, Vals vs us → All2 RelV vs us
  | _, _, .nil => .nil
  | _, _, .cons r t => .cons r (all2_vals t)
theorem vals_all2 : ∀ {vs : List V} {us : List Value}, All2 RelV vs us → Vals vs us
  | _, _, .nil => .nil
  | _, _, .cons r t => .cons r (vals_all2 t)
section
variable {X : Cx} {E : En} {k : Nat}
/-- the keywords' values -/
structure GK (X : Cx) (kws : List Keyword) (m : M (List Dat)) : Prop where
  run : ∀ t W, TakesE X t W → PK X kws (rdA X.K t W m)
theorem PK.imp {kws : List Keyword} {t t' : TA} (h : PK X kws t) (i : ∀ σ H Q, t' σ H Q → t σ H Q) : PK X kws t' := ⟨fun p pins s σ H Q I q => h.run p pins s σ H Q I (i σ H Q q)⟩
theorem gk_nil : GK X [] nilA := ⟨fun t W tk => PK.imp pk_nil fun σ H Q ⟨g, s, L, q⟩ => at_here (v := []) L q .nil⟩
theorem gk_cons {e : Expr} {kws : List Keyword} {nm : Option Str} {p : Pos} {ma : M Dat} {mr : M (List Dat)} (ha : GE X e ma) (hr : GK X kws mr) : GK X (⟨nm, e, p⟩ :: kws) (consA ma mr) :=
  ⟨fun t W tk => PK.imp (pk_cons (ha.run t W tk) (hr.run t W tk)) fun σ H Q ⟨g, s, L, q⟩ =>
    rd_seq (Q1 := fun x H1 => rdA X.K t W mr σ H1 fun xs H2 => Q (x :: xs) H2) L q fun d g1 s1 v H1 ek L1 r q1 =>
      rd_seq (R := RepsG X.K) (Q1 := fun xs H2 => Q (v :: xs) H2) L1 q1 fun ds g2 s2 vs H2 ek2 L2 r2 q2 => at_here (v := v :: vs) L2 q2 (.cons (ek2.le.rep r) r2)⟩
theorem GK.seq {kws : List Keyword} {m : M (List Dat)} {t : Ent} {W : WX} {g : Gh} {s : Sto} {σ : L2.St} {H : Hp} {pins : List (Addr × Obj)} {sh : Shared} {γ δ : Type} (h : GK X kws m) (tk : TakesE X t W) {R' : Gh → δ → γ → Prop} {f : List Dat → M γ} {Q : δ → Hp → Prop} {Post : List Value → Shared → Prop} (p : Pos) (I : Inv X pins σ H sh) (L : LRel X.K t g s σ H) (q : atG X.K t W R' g s σ H (bnd m f s) Q)
    (kk : ∀ us sh1 vs g1 s1 H1 ds, Inv X pins σ H1 sh1 → Vals vs us → EK [] g s.cs H g1 s1.cs H1 → LRel X.K t g1 s1 σ H1 → RepsG X.K g1 vs ds → atG X.K t W R' g1 s1 σ H1 (f ds s1) Q → Post us sh1) : wpAny (model X.prog X.w) X.A (evalAll ((backToKw p (keywordEach kws X.env)).map (·.2))) Post X.xe sh :=
  thn ((h.run t W tk).run p pins sh σ H (fun v H1 => ∃ d g1 s1, EK [] g s.cs H g1 s1.cs H1 ∧ LRel X.K t g1 s1 σ H1 ∧ RepsG X.K g1 v d ∧ atG X.K t W R' g1 s1 σ H1 (f d s1) Q) I
    (rd_seq L q fun d g1 s1 v H1 ek L1 r q1 => ⟨d, g1, s1, ek, L1, r, q1⟩)) fun u sh1 ⟨v, H1, I1, rv, d, g1, s1, ek, L1, r, q1⟩ => kk u sh1 v g1 s1 H1 d I1 rv ek L1 r q1
/-- the values of a call, by places and by names, of a thing that keeps P -/
theorem callWK {Ph : Heap → Prop} {fv : Value} {first : List Value} {es : List Expr} {kws : List Keyword} {ks : List Str} {pos : Pos} {ma mk : M (List Dat)} {mf : List Dat → List Dat → M Dat} {t : Ent} {W : WX} {pins pins' : List (Addr × Obj)} {sh : Shared} {σ : L2.St} {H : Hp} {g : Gh} {s : Sto} {Q : VK} (tk : TakesE X t W) (I : Inv X pins' σ H sh) (L : LRel X.K t g s σ H)
    (hP : ∀ h, Ph h → ∃ k, (k = Keeper.frame ∨ k = Keeper.machine ∨ k = Keeper.boundFrame) ∧ PySem.W.Looks (model X.prog X.w) h (keeperOf fv) k) (hIP : ∀ σ H sh, Inv X pins' σ H sh → Ph sh.heap) (hz : es = [] → ma = nilA) (hs : noStar es = true) (ha : GA X es ma) (hkn : kwNames kws = some ks) (hkw : GK X kws mk) (q : atE X.K t W g s σ H (bnd ma (fun ds => bnd mk fun zs => mf ds zs) s) Q)
    (ho : ∀ us ws sh2 vs zs g2 s2 H2 ds ds', Inv X pins' σ H2 sh2 → Vals vs us → Vals zs ws → LRel X.K t g2 s2 σ H2 → GLe g g2 → RepsG X.K g2 vs ds → RepsG X.K g2 zs ds' → atE X.K t W g2 s2 σ H2 (mf ds ds' s2) Q → wpAny (model X.prog X.w) X.A (call fv (first ++ us) (ks.zip ws)) (EP X pins σ Q) X.xe sh2) :
    wpAny (model X.prog X.w) X.A (callWith pos fv first (backTo pos (starEach es X.env)) (backToKw pos (keywordEach kws X.env))) (EP X pins σ Q) X.xe sh := by
  obtain ⟨k1, k2, k3⟩ := kw_facts (env := X.env) (pos := pos) hkn
  cases es with
  | nil =>
    obtain rfl := hz rfl
    refine PySem.W.callWith_of (by show (false || _) = false; rw [k2]; rfl) hP (PyProof.Rows.evalArgs_kw2_nil k1 ?_)
    have q : atE X.K t W g s σ H (bnd mk (fun zs => mf [] zs) s) Q := q
    refine hkw.seq tk pos I L q fun ws sh2 zs g2 s2 H2 ds' I2 rz e2 L2 r2 q2 => ⟨hIP _ _ _ I2, ?_⟩
    rw [k3]
    exact ho [] ws sh2 [] zs g2 s2 H2 [] ds' I2 .nil rz L2 e2.le .nil r2 q2
  | cons e es =>
    obtain ⟨h1, h2⟩ := star_cons (env := X.env) hs
    refine PySem.W.callWith_of (by rw [k2, star_any hs]; rfl) hP (PyProof.Rows.evalArgs_kw2 k1 ?_ h1)
    refine ha.seq tk pos I L q fun us sh1 vs g1 s1 H1 ds I1 rv e1 L1 r1 q1 => hkw.seq tk pos I1 L1 q1 fun ws sh2 zs g2 s2 H2 ds' I2 rz e2 L2 r2 q2 => ⟨hIP _ _ _ I2, ?_⟩
    rw [k3]
    exact ho us ws sh2 vs zs g2 s2 H2 ds ds' I2 rv rz L2 (e1.le.trans e2.le) (e2.le.reps r1) r2 q2
/-- a def called so -/
def FnI.runK (fi : FnI) (ds : List Dat) (kw : List (Str × Dat)) : M Dat := match bindAll fi.ps ds kw fi.dfl with
  | some vals => callM fi.con vals
  | none => fail
theorem kw_binds {D : Md} {f : Addr} {ps ks : List Str} {dfl : List Dat} {sp : Sp} {g : Gh} {xs zs : List V} {us ws : List Value} {ds ds' vals : List Dat} (F : FnK D k f ps dfl sp) (rv : Vals xs us) (rz : Vals zs ws) (r : RepsG D.K g xs ds) (r' : RepsG D.K g zs ds') (hb : bindAll ps ds (ks.zip ds') dfl = some vals) :
    ∃ fd, FnOk D.P D.w D.K D.mg D.base (CX D.P D.w) k f fd ps sp ∧ ∃ vs2 us2, Vals vs2 us2 ∧ RepsG D.K g vs2 vals ∧ ∀ sh : Shared, D.K.In sh.heap → BindsTo sh fd ⟨us, ks.zip ws⟩ (ps.zip us2) := by
  obtain ⟨fd, h, dvs, dv, rd, rg, b⟩ := F.ex
  obtain ⟨vs2, e1, a1⟩ := bind_rel (all2_reps r) (SlP.zip (ps := ks) (all2_reps r')) (all2_reps (rg g)) hb
  obtain ⟨us2, e2, a2⟩ := bind_rel (all2_vals rv) (SlP.zip (ps := ks) (all2_vals rz)) (all2_vals rd) e1
  exact ⟨fd, h, vs2, us2, vals_all2 a2, reps_all2 a1, fun sh hk => b sh us (ks.zip ws) us2 hk e2⟩
theorem code_kw {f : Addr} {ps ks : List Str} {dfl : List Dat} {c : Con} (F : FnK (md X) k f ps dfl (spOf X.K ps.length c)) (hr : Room k X.A) {t : Ent} {W : WX} (tk : TakesE X t W) {pins : List (Addr × Obj)} {sh : Shared} {σ : L2.St} {H : Hp} {g : Gh} {s : Sto} {xs zs : List V} {us ws : List Value} {ds ds' vals : List Dat} {Q : VK}
    (I : Inv X pins σ H sh) (rv : Vals xs us) (rz : Vals zs ws) (L : LRel X.K t g s σ H) (r : RepsG X.K g xs ds) (r' : RepsG X.K g zs ds') (hb : bindAll ps ds (ks.zip ds') dfl = some vals) (q : atE X.K t W g s σ H (callM c vals s) Q) :
    codeAny (model X.prog X.w) X.A (.call (.ref f) ⟨us, ks.zip ws⟩) (wants (EP X pins σ Q) X.xe) sh := by
  obtain ⟨fd, Fk, vs2, us2, r2, rp2, b⟩ := kw_binds F rv rz r r' hb
  have sp : spOf X.K ps.length c vs2 H Q (WE W σ) := by
    refine ⟨by rw [rp2.length, bind_len hb], g, s.cs, vals, L.gr, rp2, ?_⟩
    unfold callM at q
    cases e : c vals s.cs with
    | ret d cs' => rw [e] at q; exact fun g' v H' e' gr r' => q g' v H' e'.toEK (L.call e' gr) r'
    | exc x cs' => rw [e] at q; exact fun g' H' cls dd e' gr r' => q g' H' cls dd e'.toEK (L.call e' gr) r'
    | stuck => rw [e] at q; exact q.elim
  refine codeAny_mono (Fk.run X.A X.stack sh H ⟨us, ks.zip ws⟩ us2 vs2 Q (WE W σ) hr I.env0 (b sh I.kIn) r2 sp) fun r s' hq => ?_
  cases r with
  | error e => exact passAt tk.tk σ pins H sh e s' I hq
  | ok fl =>
    cases fl with
    | ret u => exact I.after hq
    | next => exact False.elim hq
    | brk => exact False.elim hq
    | cont => exact False.elim hq
end
end Zw

namespace Zw
open PySem L2 PyProof.Rows PySem.Spec ClX
section
variable {X : Cx} {E : En} {k : Nat}
/-! ### f(.., k = v) -/
def En.callK (E : En) (q : Str) (ds : List Dat) (kw : List (Str × Dat)) : M Dat := match E.fn q with
  | some fi => fi.runK ds kw
  | none => fail
theorem ge_callKw {x : Str} {fi : FnI} {es : List Expr} {kws : List Keyword} {ks : List Str} {p pos : Pos} {ma mk : M (List Dat)} (N : EnOk (md X) k E) (hr : Room k X.A) (hg : Gl X x) (hdb : (x == ("__debug__" : Str)) = false) (hm : X.mg x = some (.ref (fi.adr X.K))) (hf : E.fn x = some fi) (hz : es = [] → ma = nilA) (hs : noStar es = true) (ha : GA X es ma) (hkn : kwNames kws = some ks) (hkw : GK X kws mk) :
    GE X (.Call (.Name x p) es kws pos) (bnd ma fun ds => bnd mk fun zs => E.callK x ds (ks.zip zs)) := by
  have F := N.kw x fi hf
  refine GE.of fun t W tk pins sh σ H g s Q I L q => wpAny_Call_Name_kw (ld_glob I hg hm (callWK (Ph := fun h => X.K.In h) (first := []) tk I L (PySem.W.keeps_K F.kp) (fun _ _ _ I => I.kIn) hz hs ha hkn hkw q fun us ws sh2 vs zs g2 s2 H2 ds ds' I2 rv rz L2 _ r1 r2 q2 => ?_) hdb)
  unfold En.callK at q2
  rw [hf] at q2
  dsimp only [FnI.runK] at q2
  cases hb : bindAll fi.ps ds (ks.zip ds') fi.dfl with
  | none => rw [hb] at q2; exact q2.elim
  | some vals =>
    rw [hb] at q2
    exact wpAny_call (code_kw F hr tk I2 rv rz L2 r1 r2 hb q2)
/-! ### o.m(.., k = v) -/
/-- the method's def, whether the object (the class) is handed in -/
def En.mKw (E : En) (m : Str) (x : Dat) : Option (Str × Bool) := match x with
  | .ins _ _ => (E.methI x m).map fun q => (q, true)
  | .cls _ => E.methC x m
  | _ => none
theorem form_kw {es : List Expr} {kws : List Keyword} {ks : List Str} {pos : Pos} {env : Env} (hs : noStar es = true) (hkn : kwNames kws = some ks) (hl : es.length + kws.length < 29) : methodCallForm (es.length + kws.length) (backTo pos (starEach es env)) (backToKw pos (keywordEach kws env)) = true := by
  have h1 : ∀ {es : List Expr}, noStar es = true → (backTo pos (starEach es env)).all (!·.1) = true := fun {es} => by
    induction es with
    | nil => intro _; rfl
    | cons e es ih =>
      intro h
      obtain ⟨h1, h2⟩ := star_cons (env := env) h
      rw [h1]
      show (!false && (backTo pos (starEach es env)).all (!·.1)) = true
      rw [ih h2]; rfl
  unfold methodCallForm
  rw [h1 hs, (kw_facts hkn).1]
  have : (if (backToKw pos (keywordEach kws env)).isEmpty = true then 0 else 1) ≤ 1 := by split <;> omega
  simp only [Bool.true_and, decide_eq_true_eq]
  omega
theorem meth_eqK {o : Expr} {m : Str} {es : List Expr} {kws : List Keyword} {ks : List Str} {apos pos : Pos} {env : Env} (hb : notSuper o = true) (hs : noStar es = true) (hkn : kwNames kws = some ks) (hl : es.length + kws.length < 29) (hline : (apos.endLine == pos.line) = true) :
    eval (.Call (.Attribute o m apos) es kws pos) env = (do
      let ov ← eval o env
      standAt apos.atName
      let (f, first) ← holding [ov] (getMethod ov m (do return (← importBound o env).getD true))
      callWith pos f first (backTo pos (starEach es env)) (backToKw pos (keywordEach kws env))) := by
  rw [arm_eval_Call, base_of hb]
  unfold methodCall
  rw [form_kw hs hkn hl]
  have hp : methodCallPos true o env apos pos = pure pos := by unfold methodCallPos; simp [hline]
  simp only [calleeOf, if_true, hp, pure_bind]
theorem ge_methKw {o : Expr} {m : Str} {es : List Expr} {kws : List Keyword} {ks : List Str} {apos pos : Pos} {mo : M Dat} {ma mk : M (List Dat)} (N : EnOk (md X) k E) (hr : Room k X.A) (ho : GE X o mo) (hz : es = [] → ma = nilA) (hs : noStar es = true) (ha : GA X es ma) (hkn : kwNames kws = some ks) (hkw : GK X kws mk)
    (hb : notSuper o = true) (hl : es.length + kws.length < 29) (hline : (apos.endLine == pos.line) = true) :
    GE X (.Call (.Attribute o m apos) es kws pos) (bnd mo fun x => gate (E.mKw m x) fun q => bnd ma fun ds => bnd mk fun zs => E.callK q.1 (if q.2 = true then x :: ds else ds) (ks.zip zs)) := by
  refine GE.of fun t W tk pins sh σ H g s Q I L q => PySem.W.methodCall_KW (ho.seq tk I L q fun u sh1 v g1 s1 H1 d I1 rv e1 L1 r1 q1 => ?_) (meth_eqK hb hs hkn hl hline)
  have fin : ∀ {qn : Str} {fi : FnI} {us ws : List Value} {sh2 : Shared} {vs zs : List V} {g2 : Gh} {s2 : Sto} {H2 : Hp} {ds ds' : List Dat} {pins' : List (Addr × Obj)}, E.fn qn = some fi → Inv X pins' σ H2 sh2 → Vals vs us → Vals zs ws → LRel X.K t g2 s2 σ H2 → RepsG X.K g2 vs ds → RepsG X.K g2 zs ds' → atE X.K t W g2 s2 σ H2 (E.callK qn ds (ks.zip ds') s2) Q →
      codeAny (model X.prog X.w) X.A (.call (.ref (fi.adr X.K)) ⟨us, ks.zip ws⟩) (wants (EP X pins' σ Q) X.xe) sh2 := fun {qn fi us ws sh2 vs zs g2 s2 H2 ds ds' pins'} hf I2 rv rz L2 r1 r2 q2 => by
    unfold En.callK at q2
    rw [hf] at q2
    dsimp only [FnI.runK] at q2
    cases hb : bindAll fi.ps ds (ks.zip ds') fi.dfl with
    | none => rw [hb] at q2; exact q2.elim
    | some vals => rw [hb] at q2; exact code_kw (N.kw qn fi hf) hr tk I2 rv rz L2 r1 r2 hb q2
  cases r1 with
  | @ins a dx c fs ds h kk r =>
    obtain rfl : u = Value.ref a := rv
    have ha' : H1 a = some (.ins (He.ga X.K c) dx fs) := L1.gr.sub.at_ h rfl
    unfold En.mKw En.methI at q1
    dsimp only at q1
    cases ea : E.att c m with
    | none => rw [ea] at q1; exact q1.elim
    | some at_ =>
      rw [ea] at q1
      obtain ⟨ci, z1, z2⟩ := En.att_some ea
      have A := (N.cl c ci z1).att m at_ z2
      cases at_ with
      | meth qn =>
        dsimp only at q1
        by_cases hl : (ds.lookup m).isNone = true
        case neg => rw [if_neg hl] at q1; exact q1.elim
        rw [if_pos hl] at q1
        obtain ⟨fi, y1, y2⟩ := A
        have ln := (lookup_rep (f := m) kk r).2 (Option.isNone_iff_eq_none.mp hl)
        have q1 : atE X.K t W g1 s1 σ H1 (bnd ma (fun ds' => bnd mk fun zs => E.callK qn (Dat.ins c ds :: ds') (ks.zip zs)) s1) Q := q1
        refine getmeth_ok I1 ha' (N.cl c ci z1).cls y2 ln (callWK (Ph := fun h => X.K.In h) (first := [.ref a]) tk I1 L1 (PySem.W.keeps_K y2.kp) (fun _ _ _ I => I.kIn) hz hs ha hkn hkw q1 fun us ws sh2 vs zs g2 s2 H2 ds2 ds' I2 rv2 rz L2 l2 r1 r2 q2 => ?_)
        exact wpAny_call (fin y1 I2 (vs := .ref a :: vs) (us := .ref a :: us) (.cons rfl rv2) rz L2 (.cons (l2.rep (.ins h kk r)) r1) r2 q2)
      | _ => exact q1.elim
  | cls c =>
    obtain rfl : u = Value.ref (He.ga X.K c) := rv
    unfold En.mKw En.methC at q1
    dsimp only at q1
    cases ea : E.att c m with
    | none => rw [ea] at q1; exact q1.elim
    | some at_ =>
      rw [ea] at q1
      obtain ⟨ci, z1, z2⟩ := En.att_some ea
      have A := (N.cl c ci z1).att m at_ z2
      cases at_ with
      | stat qn =>
        obtain ⟨fi, p, mc, rest, y1, y2, y3, y4⟩ := A
        have q1 : atE X.K t W g1 s1 σ H1 (bnd ma (fun ds' => bnd mk fun zs => E.callK qn ds' (ks.zip zs)) s1) Q := q1
        refine getmeth_sm I1 y2 y3 y4 fun sh' I1' => callWK (Ph := fun h => X.K.In h) (first := []) tk I1' L1 (PySem.W.keeps_K (N.kw qn fi y1).kp) (fun _ _ _ I => I.kIn) hz hs ha hkn hkw q1 fun us ws sh2 vs zs g2 s2 H2 ds2 ds' I2 rv2 rz L2 l2 r1 r2 q2 => ?_
        exact wpAny_call (fin y1 I2 rv2 rz L2 r1 r2 q2)
      | clsm qn =>
        obtain ⟨fi, p, mc, y1, y2, y3⟩ := A
        have q1 : atE X.K t W g1 s1 σ H1 (bnd ma (fun ds' => bnd mk fun zs => E.callK qn (Dat.cls c :: ds') (ks.zip zs)) s1) Q := q1
        refine getmethcm_ok I1 y2 y3 fun sh' I1' => callWK (Ph := PySem.W.MethP X.K sh1.heap.objs.size (fi.adr X.K) (.ref (He.ga X.K c))) (first := []) tk I1' L1 (PySem.W.keeps_M y3.fi) (fun _ _ _ I => ⟨pin_at I, I.kIn⟩) hz hs ha hkn hkw q1 fun us ws sh2 vs zs g2 s2 H2 ds2 ds' I2 rv2 rz L2 l2 r1 r2 q2 => ?_
        exact thn (wpAny_call (PySem.W.method_call (pin_at I2) (fin y1 I2 (vs := .ref (He.ga X.K c) :: vs) (us := .ref (He.ga X.K c) :: us) (.cons rfl rv2) rz L2 (.cons (.cls c) r1) r2 q2))) fun _ _ y => unpinE y
      | _ => exact q1.elim
  | _ => exact q1.elim
end
end Zw

namespace Zw
open PySem L2 PyProof.Rows PySem.Spec ClX
/-! ### C(.., k = v) -/
def allSome {α : Type} : List (Option α) → Option (List α)
  | [] => some []
  | some a :: l => (allSome l).map fun r => a :: r
  | none :: _ => none
section
variable {X : Cx} {E : En} {k : Nat}
def En.makeK (E : En) (c : Str) (ds : List Dat) (kw : List (Str × Dat)) : M Dat := match E.ini c with
  | some fi => (match bindAll fi.ps (none :: ds.map some) (kw.map fun p => (p.1, some p.2)) (fi.dfl.map some) with
    | some (none :: rest) => (match allSome rest with
      | some vals => callM fi.con (Dat.ins c [] :: vals)
      | none => fail)
    | _ => fail)
  | none => fail
/-- self, or a value -/
def SelfR (K : PySem.W.Frag) (g : Gh) (x : Addr) : Option Dat → V → Prop
  | none, v => v = .ref x
  | some d, v => RepG K g v d
theorem self_reps {K : PySem.W.Frag} {g : Gh} {x : Addr} : ∀ {vs : List V} {ds : List Dat}, RepsG K g vs ds → All2 (SelfR K g x) (ds.map some) vs
  | _, _, .nil => .nil
  | _, _, .cons r t => .cons r (self_reps t)
theorem self_some {K : PySem.W.Frag} {g : Gh} {x : Addr} : ∀ {os : List (Option Dat)} {vs : List V} {ds : List Dat}, allSome os = some ds → All2 (SelfR K g x) os vs → RepsG K g vs ds
  | _, _, ds, h, .nil => by cases h; exact .nil
  | some d :: os, v :: vs, ds, h, .cons r t => by
    obtain ⟨ds', h1, h2⟩ := Option.map_eq_some_iff.mp (show (allSome os).map (fun r => d :: r) = some ds from h)
    subst h2
    exact .cons r (self_some h1 t)
  | none :: os, v :: vs, ds, h, .cons r t => by cases h
theorem kw_some {ks : List Str} {ds : List Dat} : (ks.zip ds).map (fun p => (p.1, some p.2)) = ks.zip (ds.map some) := by
  induction ks generalizing ds with
  | nil => rfl
  | cons k ks ih =>
    cases ds with
    | nil => rfl
    | cons d ds => exact congrArg _ ih
theorem run_makeKw (N : EnOk (md X) k E) (hr : Room (k + 1) X.A) {c : Str} {ks : List Str} {t : Ent} {W : WX} (tk : TakesE X t W) {pins : List (Addr × Obj)} {sh : Shared} {σ : L2.St} {H : Hp} {g : Gh} {s : Sto} {xs zs : List V} {us ws : List Value} {ds ds' : List Dat} {Q : VK} (I : Inv X pins σ H sh) (rv : Vals xs us) (rz : Vals zs ws) (L : LRel X.K t g s σ H)
    (r : RepsG X.K g xs ds) (r' : RepsG X.K g zs ds') (q : atE X.K t W g s σ H (E.makeK c ds (ks.zip ds') s) Q) : wpAny (model X.prog X.w) X.A (call (.ref (He.ga X.K c)) us (ks.zip ws)) (EP X pins σ Q) X.xe sh := by
  unfold En.makeK at q
  cases e : E.ini c with
  | none => rw [e] at q; exact q.elim
  | some fi =>
    rw [e] at q
    dsimp only at q
    rw [kw_some] at q
    cases hb : bindAll fi.ps (none :: ds.map some) (ks.zip (ds'.map some)) (fi.dfl.map some) with
    | none => rw [hb] at q; exact q.elim
    | some os =>
      rw [hb] at q
      match os, hb, q with
      | [], hb, q => exact q.elim
      | some _ :: _, hb, q => exact q.elim
      | none :: rest, hb, q =>
        dsimp only at q
        cases ha : allSome rest with
        | none => rw [ha] at q; exact q.elim
        | some vals =>
          rw [ha] at q
          obtain ⟨mk, _⟩ := N.ini c fi e
          obtain ⟨fd, Fk, dvs, dv, rd, rg, b⟩ := (N.kwi c fi e).ex
          obtain ⟨vs2, e1, a1⟩ := bind_rel (R := SelfR X.K g (sh.heap.objs.size + 1)) (us' := .ref (sh.heap.objs.size + 1) :: xs) (.cons (a := none) rfl (self_reps r)) (SlP.zip (ps := ks) (self_reps r')) (self_reps (rg g)) hb
          obtain ⟨us2, e2, a2⟩ := bind_rel (R := RelV) (us' := .ref (sh.heap.objs.size + 1) :: us) (.cons (a := V.ref (sh.heap.objs.size + 1)) rfl (all2_vals rv)) (SlP.zip (ps := ks) (all2_vals rz)) (all2_vals rd) e1
          cases a1 with
          | cons r0 a1 =>
            rename_i v0 vs2
            cases r0
            have rp2 := self_some ha a1
            have hl : fi.ps.length = vals.length + 1 := by
              have z := bind_len e1
              rw [← z, List.length_cons, rp2.length]
            have sp := make_sp (X := X) (c := c) (W := W) (con := fi.con) (n := fi.ps.length) (dvs := []) (dfl := []) L rp2 .nil (by simpa using hl) (by rw [List.append_nil]; exact q) (I.hok.fresh (Nat.le_succ _)) (I.hok.fresh (Nat.le_refl _)) (Nat.ne_of_lt (Nat.lt_succ_self sh.heap.objs.size))
            rw [List.append_nil] at sp
            have I2 := Inv.made (C := He.ga X.K c) I
            refine wpAny_call (make_map (f := fi.adr X.K) I.kIn mk.makes mk.init (beq_iff_eq.mp mk.fn) (codeAny_mono (Fk.run _ X.stack _ _ ⟨Value.ref (sh.heap.objs.size + 1) :: us, ks.zip ws⟩ us2 _ _ (WE W σ) (hr.make (He.ga X.K c) us (ks.zip ws))
              (I2.env0.make (He.ga X.K c) us (ks.zip ws)) (b _ (Value.ref (sh.heap.objs.size + 1) :: us) (ks.zip ws) us2 I2.kIn e2) (vals_all2 a2) sp) fun r s' hq' => ?_))
            cases r with
            | error e => exact passAt tk.tk σ pins _ _ e s' I2 hq'
            | ok fl =>
              cases fl with
              | ret u =>
                obtain ⟨v, H', I3, rv, ev, q3⟩ := I2.after hq'
                subst ev
                exact ⟨rv, ⟨V.ref (sh.heap.objs.size + 1), H', I3, rfl, q3⟩⟩
              | next => exact False.elim hq'
              | brk => exact False.elim hq'
              | cont => exact False.elim hq'
theorem ge_makeKw {c : Str} {ci : ClsI} {fi : FnI} {es : List Expr} {kws : List Keyword} {ks : List Str} {p pos : Pos} {ma mk : M (List Dat)} (N : EnOk (md X) k E) (hr : Room (k + 1) X.A) (hg : Gl X c) (hdb : (c == ("__debug__" : Str)) = false) (hi : E.ini c = some fi) (hc : E.cl c = some ci) (hz : es = [] → ma = nilA) (hs : noStar es = true) (ha : GA X es ma) (hkn : kwNames kws = some ks) (hkw : GK X kws mk) :
    GE X (.Call (.Name c p) es kws pos) (bnd ma fun ds => bnd mk fun zs => E.makeK c ds (ks.zip zs)) := by
  refine GE.of fun t W tk pins sh σ H g s Q I L q => wpAny_Call_Name_kw (ld_glob I hg (N.cl c ci hc).glo (callWK (Ph := fun h => X.K.In h) (first := []) tk I L (PySem.W.keeps_K (N.ini c fi hi).1.kp) (fun _ _ _ I => I.kIn) hz hs ha hkn hkw q fun us ws sh2 vs zs g2 s2 H2 ds ds' I2 rv rz L2 _ r1 r2 q2 => ?_) hdb)
  exact run_makeKw N hr tk I2 rv rz L2 r1 r2 q2
end
end Zw

namespace Zw
open PySem L2 PyProof.Rows PySem.Spec ClX
/-! ### repr of plain data -/
mutual
def Dat.pd : Dat → Option PyData
  | .non => some .none
  | .bl b => some (.bool b)
  | .int i => some (.int i)
  | .str x => some (.str x)
  | .lst ds => (Dat.pds ds).map .list
  | .tup ds => (Dat.pds ds).map .tuple
  | .dic kvs => (Dat.pdk kvs).map .dict
  | _ => none
def Dat.pds : List Dat → Option (List PyData)
  | [] => some []
  | d :: ds => match Dat.pd d, Dat.pds ds with
    | some x, some xs => some (x :: xs)
    | _, _ => none
def Dat.pdk : List (Dat × Dat) → Option (List (PyData × PyData))
  | [] => some []
  | (k, v) :: ds => match Dat.pd k, Dat.pd v, Dat.pdk ds with
    | some x, some y, some xs => some ((x, y) :: xs)
    | _, _, _ => none
end
theorem pdk_two : ∀ {ds : List (Dat × Dat)} {es : List (PyData × PyData)}, Dat.pdk ds = some es → Dat.pds (ds.map (·.1)) = some (es.map (·.1)) ∧ Dat.pds (ds.map (·.2)) = some (es.map (·.2))
  | [], _, h => by unfold Dat.pdk at h; cases h; exact ⟨by unfold Dat.pds; rfl, by unfold Dat.pds; rfl⟩
  | (k, v) :: ds, _, h => by
    unfold Dat.pdk at h
    split at h
    · rename_i x y xs h1 h2 h3
      cases h
      obtain ⟨i1, i2⟩ := pdk_two h3
      refine ⟨?_, ?_⟩
      · simp only [List.map_cons]; unfold Dat.pds; rw [h1, i1]
      · simp only [List.map_cons]; unfold Dat.pds; rw [h2, i2]
    · cases h
section
variable {X : Cx} {pins : List (Addr × Obj)} {σ : L2.St} {H P : Hp} {s : Shared} {io : List Addr}
theorem Sub.rdd {P H : Hp} (l : Sub P H) {a : Addr} {u : HO} (h : P a = some u) : Rd H a u := by
  rcases l _ _ h with q | ⟨_, o, q⟩
  · exact .inl q
  · exact .inr ⟨o, q⟩
/-- the keys of a dict, read -/
theorem keys_read {h : Heap} : ∀ {es : List DictEntry} {kvs : List (Key × Value)}, Pairs (mixKind X.prog X.w) es kvs → ∀ {ps : List PyData}, Dat.pds (kvs.map fun p => keyD p.1) = some ps → ReadsAll h (es.map (·.key)) ps []
  | _, _, .nil, _, e => by simp only [List.map_nil] at e; unfold Dat.pds at e; cases e; exact .nil
  | _, _, .cons (e := en) (kv := kv) hk hv t, _, e => by
    simp only [List.map_cons] at e
    unfold Dat.pds at e
    split at e
    · rename_i x xs h1 h2
      cases e
      have r1 : Reads h en.key x [] := by
        rcases keyIs_shape hk with ⟨i, tk, e1, e2⟩ | ⟨z, tk, e1, e2⟩
        · rw [e1] at h1
          unfold keyD Dat.pd at h1; cases h1
          rw [e2]; exact .int i tk
        · rw [e1] at h1
          unfold keyD Dat.pd at h1; cases h1
          rw [e2]; exact .str z tk
      exact .cons r1 (keys_read t h2)
    · cases e
theorem ints_read {h : Heap} : ∀ {ks : List Key} {us : List Value}, Vals (ks.map kV) us → ∀ {ps : List PyData}, Dat.pds (ks.map keyD) = some ps → ReadsAll h us ps []
  | [], _, .nil, _, e => by simp only [List.map_nil] at e; unfold Dat.pds at e; cases e; exact .nil
  | k :: ks, _, .cons r t, _, e => by
    simp only [List.map_cons] at e
    unfold Dat.pds at e
    split at e
    · rename_i x xs h1 h2
      cases e
      refine .cons (as := []) ?_ (ints_read t h2)
      cases k with
      | inl i => unfold keyD Dat.pd at h1; cases h1; obtain ⟨tk, rfl⟩ := r; exact .int i tk
      | inr z => unfold keyD Dat.pd at h1; cases h1; obtain ⟨tk, rfl⟩ := r; exact .str z tk
    · cases e
theorem tkeys_read (ok : HOk X.prog X.w H s.heap) : ∀ {kvs : List (List Key × V)} {xs : List (List Key × Addr × Value)}, KT H kvs xs → ∀ {ps : List PyData}, Dat.pds (kvs.map fun p => Dat.tup (p.1.map keyD)) = some ps → ReadsAll s.heap (xs.map fun x => .ref x.2.1) ps []
  | _, _, .nil, _, e => by simp only [List.map_nil] at e; unfold Dat.pds at e; cases e; exact .nil
  | _, _, .cons hq t, _, e => by
    simp only [List.map_cons] at e
    unfold Dat.pds at e
    split at e
    · rename_i x xs h1 h2
      cases e
      unfold Dat.pd at h1
      obtain ⟨ys, e1, e2⟩ := Option.map_eq_some_iff.mp h1
      subst e2
      obtain ⟨_, its, r, o, g1, g2, n, g3⟩ := (show ObjOk X.prog X.w H s.heap _ (.tup _) from ok _ _ hq.2.1)
      exact .cons (as := []) (.tuple g1 g2 g3 (by simpa using ints_read r e1)) (tkeys_read ok t h2)
    · cases e
theorem kv_vals : ∀ {kvs : List (Key × V)} {vs : List (Key × Value)}, KV kvs vs → Vals (kvs.map (·.2)) (vs.map (·.2))
  | _, _, .nil => .nil
  | _, _, .cons h t => .cons h.2 (kv_vals t)
theorem pairs_snd : ∀ {es : List DictEntry} {kvs : List (Key × Value)}, Pairs (mixKind X.prog X.w) es kvs → es.map (·.val) = kvs.map (·.2)
  | _, _, .nil => rfl
  | _, _, .cons _ hv t => by simp only [List.map_cons]; rw [hv, pairs_snd t]
theorem kt_vals : ∀ {kvs : List (List Key × V)} {xs : List (List Key × Addr × Value)}, KT H kvs xs → Vals (kvs.map (·.2)) (xs.map (·.2.2))
  | _, _, .nil => .nil
  | _, _, .cons h t => .cons h.2.2 (kt_vals t)
theorem kv_fst : ∀ {kvs : List (Key × V)} {vs : List (Key × Value)}, KV kvs vs → (kvs.map fun p => keyD p.1) = vs.map fun p => keyD p.1
  | _, _, .nil => rfl
  | _, _, .cons h t => by simp only [List.map_cons]; rw [h.1, kv_fst t]
theorem not_sys (N : TyMore X.K) (I : Inv X pins σ H s) {a : Addr} {o : Obj} {vs : Array Value} {n : Nat} (h : s.heap.get? a = some o) (hd : o.data = .seq vs n) : a ≠ sysModules := fun z => by
  obtain ⟨o', es, m, h1, h2⟩ := N.sm
  have h3 := I.kIn _ _ h1
  rw [← z, h] at h3
  cases h3
  rw [hd] at h2; cases h2
mutual
theorem pd_reads (N : TyMore X.K) (I : Inv X pins σ H s) (sb : Sub P H) : ∀ {v : V} {d : Dat}, Rep X.K P io v d → ∀ {e : PyData} {u : Value}, d.pd = some e → RelV v u → ∃ as, Reads s.heap u e as ∧ sysModules ∉ as
  | _, _, .non, _, _, h, r => by unfold Dat.pd at h; cases h; cases r; exact ⟨_, .none, by simp⟩
  | _, _, .bl b, _, _, h, r => by unfold Dat.pd at h; cases h; cases r; exact ⟨_, .bool b, by simp⟩
  | _, _, .int i, _, _, h, r => by unfold Dat.pd at h; cases h; obtain ⟨t, rfl⟩ := r; exact ⟨_, .int i t, by simp⟩
  | _, _, .str x, _, _, h, r => by unfold Dat.pd at h; cases h; obtain ⟨t, rfl⟩ := r; exact ⟨_, .str x t, by simp⟩
  | _, _, .tup h1 rr, _, _, h, r => by
    unfold Dat.pd at h
    obtain ⟨xs, e1, e2⟩ := Option.map_eq_some_iff.mp h
    subst e2
    cases r
    obtain ⟨its, rv, ⟨o, ho, hc, n, hd⟩, _⟩ := I.tuple (sb.sqT h1)
    obtain ⟨as, hr, hn⟩ := pds_reads N I sb rr e1 rv
    exact ⟨_, .tuple ho hc hd hr, hn⟩
  | _, _, .lst h1 rr, _, _, h, r => by
    unfold Dat.pd at h
    obtain ⟨xs, e1, e2⟩ := Option.map_eq_some_iff.mp h
    subst e2
    cases r
    obtain ⟨its, rv, ⟨o, n, ho, hc, _, hd⟩, _⟩ := I.list (sb.sqL h1)
    obtain ⟨as, hr, hn⟩ := pds_reads N I sb rr e1 rv
    exact ⟨_, .list ho hc hd hr, by simp only [List.mem_cons, not_or]; exact ⟨(not_sys N I ho hd).symm, hn⟩⟩
  | _, _, .dicK h1 kk rr, _, _, h, r => by
    unfold Dat.pd at h
    obtain ⟨xs, e1, e2⟩ := Option.map_eq_some_iff.mp h
    subst e2
    cases r
    obtain ⟨p1, p2⟩ := pdk_two e1
    obtain ⟨_, hs, vs, kv, o, es, ep, ho, hx, hd, _, hp, _⟩ := dk_rd I.hok (sb.rdd h1)
    obtain ⟨as, hr, hn⟩ := pds_reads N I sb rr p2 (kv_vals kv)
    rw [kk, kv_fst kv] at p1
    refine ⟨_, .dict ho hx.1 hd (keys_read hp p1) (by rw [pairs_snd hp]; exact hr), ?_⟩
    simp only [List.append_nil, List.cons_append, List.mem_cons, not_or, List.nil_append]
    exact ⟨fun z => by rw [z] at hs; simp at hs, hn⟩
  | _, _, .dicT h1 kk rr, _, _, h, r => by
    unfold Dat.pd at h
    obtain ⟨xs, e1, e2⟩ := Option.map_eq_some_iff.mp h
    subst e2
    cases r
    obtain ⟨p1, p2⟩ := pdk_two e1
    obtain ⟨_, hs, ys, kv, o, es, ep, ho, hx, hd, he, _, _⟩ := dt_rd I.hok (sb.rdd h1)
    obtain ⟨as, hr, hn⟩ := pds_reads N I sb rr p2 (kt_vals kv)
    rw [kk] at p1
    refine ⟨_, .dict ho hx.1 hd (as := []) (by rw [he, List.map_map]; exact tkeys_read I.hok kv p1) (by rw [he, List.map_map]; exact hr), ?_⟩
    simp only [List.append_nil, List.cons_append, List.mem_cons, not_or, List.nil_append]
    exact ⟨fun z => by rw [z] at hs; simp at hs, hn⟩
  | _, _, .ty n, _, _, h, _ => by unfold Dat.pd at h; cases h
  | _, _, .ins _ _ _, _, _, h, _ => by unfold Dat.pd at h; cases h
  | _, _, .exc0 _, _, _, h, _ => by unfold Dat.pd at h; cases h
  | _, _, .exc1 _ _ _ _, _, _, h, _ => by unfold Dat.pd at h; cases h
  | _, _, .cls _, _, _, h, _ => by unfold Dat.pd at h; cases h
  | _, _, .fn _, _, _, h, _ => by unfold Dat.pd at h; cases h
  | _, _, .loc _, _, _, h, _ => by unfold Dat.pd at h; cases h
  | _, _, .tab, _, _, h, _ => by unfold Dat.pd at h; cases h
theorem pds_reads (N : TyMore X.K) (I : Inv X pins σ H s) (sb : Sub P H) : ∀ {vs : List V} {ds : List Dat}, Reps X.K P io vs ds → ∀ {es : List PyData} {us : List Value}, Dat.pds ds = some es → Vals vs us → ∃ as, ReadsAll s.heap us es as ∧ sysModules ∉ as
  | _, _, .nil, _, _, h, r => by unfold Dat.pds at h; cases h; cases r; exact ⟨_, .nil, by simp⟩
  | _, _, .cons r1 t, _, _, h, r => by
    unfold Dat.pds at h
    split at h
    · rename_i x xs h1 h2
      cases h
      cases r with
      | cons q1 q2 =>
        obtain ⟨as, a1, a2⟩ := pd_reads N I sb r1 h1 q1
        obtain ⟨bs, b1, b2⟩ := pds_reads N I sb t h2 q2
        exact ⟨_, .cons a1 b1, by simp [a2, b2]⟩
    · cases h
end
def shD (d : Dat) : Option Str := match d.pd with
  | some e => if e.showable = true ∧ e.shown.length ≤ sizeLine ∧ e.depth ≤ 100 then some e.shown else none
  | none => none
def rRepr : Rule := p1 fun x => (shD x).map .str
theorem ok_repr {k : Nat} (N : TyMore X.K) (hr : Room k X.A) : ROk X (f1 fun u => call (.builtin "repr") [u]) rRepr := ROk.p1 fun pins sh σ H g x u dx d Q e I r1 sb p q => by
  obtain ⟨y, e1, e2⟩ := Option.map_eq_some_iff.mp e
  subst e2
  unfold shD at e1
  cases ep : dx.pd with
  | none => rw [ep] at e1; cases e1
  | some pe =>
    rw [ep] at e1
    dsimp only at e1
    by_cases z : pe.showable = true ∧ pe.shown.length ≤ sizeLine ∧ pe.depth ≤ 100
    case neg => rw [if_neg z] at e1; cases e1
    rw [if_pos z] at e1; cases e1
    obtain ⟨z1, z2, z3⟩ := z
    have hun := hr.un
    obtain ⟨as, rd, hn⟩ := pd_reads N I sb p ep r1
    show wpAny _ _ (call (.builtin "repr") [u]) _ _ _
    cases rd with
    | none => exact PySem.P.repr_of_none ⟨.str _, H, I.tok _, ⟨_, rfl⟩, by unfold PyData.shown at q; exact q _ (.str _)⟩
    | bool b => exact PySem.P.repr_of_bool ⟨.str _, H, I.tok _, ⟨_, rfl⟩, by unfold PyData.shown at q; exact q _ (.str _)⟩
    | int i t =>
      unfold PyData.showable at z1
      exact PySem.P.repr_of_int (of_decide_eq_true z1) ⟨.str _, H, I.tok _, ⟨_, rfl⟩, by unfold PyData.shown at q; exact q _ (.str _)⟩
    | str x t =>
      unfold PyData.shown at z2
      exact PySem.P.repr_of_str ⟨.str _, H, I.tok _, ⟨_, rfl⟩, by unfold PyData.shown at q; exact q _ (.str _)⟩ z2
    | list h1 h2 h3 h4 => exact PySem.repr_of_reads' (.list h1 h2 h3 h4) z1 (fun _ => hn) hr.gd (by omega) (fun b o e => e) (fun h' u tk hk => ⟨.str _, H, I.kept hk, ⟨_, rfl⟩, q _ (.str _)⟩) z2
    | tuple h1 h2 h3 h4 => exact PySem.repr_of_reads' (.tuple h1 h2 h3 h4) z1 (fun _ => hn) hr.gd (by omega) (fun b o e => e) (fun h' u tk hk => ⟨.str _, H, I.kept hk, ⟨_, rfl⟩, q _ (.str _)⟩) z2
    | dict h1 h2 h3 h4 h5 => exact PySem.repr_of_reads' (.dict h1 h2 h3 h4 h5) z1 (fun _ => hn) hr.gd (by omega) (fun b o e => e) (fun h' u tk hk => ⟨.str _, H, I.kept hk, ⟨_, rfl⟩, q _ (.str _)⟩) z2
section
open PySem.W PySem.Calls
theorem repr_own {prog : Program} {w : World} {A : Around} {xe : Value → Shared → Prop} {s : Shared} {K : Frag} {x C f : Addr} {ox : Obj} {od : Option Obj} {Q : Value → Shared → Prop} (hu : A.in1.units < cLine) (X : K.In s.heap) (I : PySem.W.InstAt s.heap x ox C od) (hs : findIn K (.ref C) "__repr__" = some (some (.ref f))) (hf : isFn K (.ref f) = true)
    (h : wpAny (model prog w) A.in1 (call (.ref f) [.ref x]) (PySem.W.StrBack Q) xe s) : wpAny (model prog w) A (call (.builtin "repr") [.ref x]) Q xe s := by
  refine Calls.call_function_entry PySem.F.kind_repr PySem.F.plain_repr PySem.F.entry_repr (PySem.F.args_repr1 _) ?_
  unfold Builtin.«repr»
  refine wpAny_bind (wpAny_pure ?_)
  refine wpAny_bind (wpAny_cRoomFor hu ?_)
  refine wpAny_bind (wpAny_bind (I.type.here ((looks_findIn X hs).here ?_)))
  show wpAny _ _ (if (some (Value.ref f)).isNone = true then _ else _) _ _ _
  rw [if_neg (by simp)]
  refine wpAny_bind (m := callSpecialIfBound? (.ref x) (Str.ofString "__repr__") _) (PySem.W.ifBound_K X I hs hf (wpAny_mono h (fun r s' hr => ?_) fun _ _ y => y))
  cases r <;> first | exact hr.elim | skip
  refine wpAny_bind (wpAny_isInstance (typeIs_str _ _ _) isSubtype_str_str ?_)
  first
    | exact wpAny_pure ⟨_, rfl, hr⟩
    | (rw [if_pos rfl]; exact wpAny_pure ⟨_, rfl, hr⟩)
    | (simp only [if_true]; exact wpAny_pure ⟨_, rfl, hr⟩)
end
def En.rReprO (E : En) : Rule := fun ds => match ds with
  | [.ins c fs] => (match E.att c "__repr__" with
    | some (.meth q) => some (strM (E.call q [.ins c fs]))
    | _ => none)
  | _ => none
theorem ok_reprO {k : Nat} {E : En} (N : EnOk (md X) k E) (hr : Room (k + 1) X.A) : ROk X (f1 fun u => call (.builtin "repr") [u]) E.rReprO := fun t W tk pins sh σ H g s xs us ds m Q e I rv L rp q => by
  have hr2 : Room k X.A.in1 := Room.in1 hr
  match xs, us, ds, rv, rp, e with
  | [x], [u], [dx], .cons r1 .nil, .cons p1 .nil, e =>
    cases p1 with
    | @ins a dxa c fs ds h kk r =>
      cases (show u = Value.ref a from r1)
      unfold En.rReprO at e
      dsimp only at e
      cases ea : E.att c "__repr__" with
      | none => rw [ea] at e; cases e
      | some at_ =>
        rw [ea] at e
        cases at_ with
        | meth qn =>
          cases e
          exact str_own (F := fun u => call (.builtin "repr") [u]) N hr2 (fun _ _ _ _ I => I.env0.in1) (fun pins σ H sh Q a c ci ox od fa I hc C J M h => repr_own hr2.units0 I.kIn J M.at_ M.fn h) tk I L h kk r ea q
        | _ => cases e
    | _ => cases e
  | [], _, _, .nil, .nil, e => cases e
  | _ :: _ :: _, _, _, .cons _ (.cons _ _), .cons _ (.cons _ _), e => simp [En.rReprO] at e
/-- texts as repr shows them -/
def En.rRep (E : En) : Rule := orR rRepr E.rReprO
end
end Zw

namespace Zw
open PySem L2 PyProof.Rows PySem.Spec ClX
/-! ### dicts as data -/
/-- keys that are ints, texts, tuples of these -/
def kEq1 : Dat → Dat → Bool
  | .int i, .int j => decide (i = j)
  | .str x, .str y => decide (x = y)
  | _, _ => false
def kEqs : List Dat → List Dat → Bool
  | [], [] => true
  | a :: as, b :: bs => kEq1 a b && kEqs as bs
  | _, _ => false
def kEq : Dat → Dat → Bool
  | .tup xs, .tup ys => kEqs xs ys
  | a, b => kEq1 a b
theorem kEq1_key (a b : Key) : kEq1 (keyD a) (keyD b) = decide (a = b) := by
  cases a <;> cases b <;> simp [keyD, kEq1]
theorem kEq_key (a b : Key) : kEq (keyD a) (keyD b) = decide (a = b) := by
  cases a <;> cases b <;> simp [keyD, kEq, kEq1]
theorem kEqs_key : ∀ (a b : List Key), kEqs (a.map keyD) (b.map keyD) = decide (a = b)
  | [], [] => by simp [kEqs]
  | [], _ :: _ => by simp [kEqs]
  | _ :: _, [] => by simp [kEqs]
  | a :: as, b :: bs => by simp [kEqs, kEq1_key, kEqs_key as bs]
theorem kEq_tup (a b : List Key) : kEq (.tup (a.map keyD)) (.tup (b.map keyD)) = decide (a = b) := kEqs_key a b
/-- d[k], d[k] = v -/
def lkD (ds : List (Dat × Dat)) (k : Dat) : Option Dat := (ds.find? fun p => kEq p.1 k).map (·.2)
def stD (ds : List (Dat × Dat)) (k v : Dat) : List (Dat × Dat) := if (ds.any fun p => kEq p.1 k) = true then ds.map fun p => if kEq p.1 k = true then (p.1, v) else p else ds ++ [(k, v)]
def dlD (ds : List (Dat × Dat)) (k : Dat) : List (Dat × Dat) := ds.filter fun p => !kEq p.1 k
section
variable {κ : Type} [DecidableEq κ]
/-- a dict's pairs and data -/
def KR (K : PySem.W.Frag) (P : Hp) (io : List Addr) (kd : κ → Dat) (kvs : List (κ × V)) (ds : List (Dat × Dat)) : Prop := (ds.map (·.1) = kvs.map fun p => kd p.1) ∧ Reps K P io (kvs.map (·.2)) (ds.map (·.2))
variable {K : PySem.W.Frag} {P : Hp} {io : List Addr} {kd : κ → Dat}
theorem KR.nil : KR K P io kd [] [] := ⟨rfl, .nil⟩
theorem KR.cons {k : κ} {v : V} {a : Dat} {d : Dat} {kvs : List (κ × V)} {ds : List (Dat × Dat)} (e : a = kd k) (r : Rep K P io v d) (t : KR K P io kd kvs ds) : KR K P io kd ((k, v) :: kvs) ((a, d) :: ds) := ⟨by simp only [List.map_cons]; rw [e, t.1], .cons r t.2⟩
theorem KR.ind {kvs : List (κ × V)} {ds : List (Dat × Dat)} (h : KR K P io kd kvs ds) : (kvs = [] ∧ ds = []) ∨ ∃ k v d kvs' ds', kvs = (k, v) :: kvs' ∧ ds = (kd k, d) :: ds' ∧ Rep K P io v d ∧ KR K P io kd kvs' ds' := by
  obtain ⟨h1, h2⟩ := h
  cases kvs with
  | nil =>
    cases ds with
    | nil => exact .inl ⟨rfl, rfl⟩
    | cons _ _ => simp at h1
  | cons p kvs =>
    cases ds with
    | nil => simp at h1
    | cons q ds =>
      obtain ⟨k, v⟩ := p
      obtain ⟨a, d⟩ := q
      simp only [List.map_cons, List.cons.injEq] at h1
      obtain ⟨e, h1⟩ := h1
      cases h2 with
      | cons r t => exact .inr ⟨k, v, d, kvs, ds, rfl, by rw [e], r, h1, t⟩
theorem KR.length {kvs : List (κ × V)} {ds : List (Dat × Dat)} (h : KR K P io kd kvs ds) : kvs.length = ds.length := by
  have := congrArg List.length h.1
  simpa using this.symm
theorem KR.val (hk : ∀ a b, kEq (kd a) (kd b) = decide (a = b)) (k : κ) : ∀ {kvs : List (κ × V)} {ds : List (Dat × Dat)}, KR K P io kd kvs ds → (∀ d, lkD ds (kd k) = some d → ∃ v, valV kvs k = some v ∧ Rep K P io v d) ∧ (lkD ds (kd k) = none → valV kvs k = none) := by
  intro kvs
  induction kvs with
  | nil =>
    intro ds h
    rcases h.ind with ⟨_, rfl⟩ | ⟨k', v, d, kvs', ds', e, _⟩
    · exact ⟨fun d e => by simp [lkD] at e, fun _ => rfl⟩
    · cases e
  | cons p kvs ih =>
    intro ds h
    rcases h.ind with ⟨e, _⟩ | ⟨k', v, d, kvs', ds', e, rfl, r, t⟩
    · cases e
    · cases e
      obtain ⟨i1, i2⟩ := ih t
      by_cases z : k' = k
      · subst z
        refine ⟨fun d' e => ?_, fun e => ?_⟩
        · simp [lkD, hk] at e; subst e
          exact ⟨v, valV_pos rfl, r⟩
        · simp [lkD, hk] at e
      · have e1 : lkD ((kd k', d) :: ds') (kd k) = lkD ds' (kd k) := by simp [lkD, hk, z]
        rw [e1, valV_neg z]
        exact ⟨i1, i2⟩
theorem KR.any (hk : ∀ a b, kEq (kd a) (kd b) = decide (a = b)) (k : κ) : ∀ {kvs : List (κ × V)} {ds : List (Dat × Dat)}, KR K P io kd kvs ds → (kvs.any fun kv => decide (kv.1 = k)) = ds.any fun p => kEq p.1 (kd k) := by
  intro kvs
  induction kvs with
  | nil =>
    intro ds h
    rcases h.ind with ⟨_, rfl⟩ | ⟨k', v, d, kvs', ds', e, _⟩
    · rfl
    · cases e
  | cons p kvs ih =>
    intro ds h
    rcases h.ind with ⟨e, _⟩ | ⟨k', v, d, kvs', ds', e, rfl, r, t⟩
    · cases e
    · cases e
      simp only [List.any_cons, hk, ih t]
theorem KR.repl (hk : ∀ a b, kEq (kd a) (kd b) = decide (a = b)) (k : κ) {v : V} {d : Dat} (r : Rep K P io v d) : ∀ {kvs : List (κ × V)} {ds : List (Dat × Dat)}, KR K P io kd kvs ds → KR K P io kd (kvs.map fun kv => if kv.1 = k then (kv.1, v) else kv) (ds.map fun p => if kEq p.1 (kd k) = true then (p.1, d) else p) := by
  intro kvs
  induction kvs with
  | nil =>
    intro ds h
    rcases h.ind with ⟨_, rfl⟩ | ⟨k', v, d, kvs', ds', e, _⟩
    · exact KR.nil
    · cases e
  | cons p kvs ih =>
    intro ds h
    rcases h.ind with ⟨e, _⟩ | ⟨k', v', d', kvs', ds', e, rfl, r', t⟩
    · cases e
    · cases e
      simp only [List.map_cons, hk, decide_eq_true_eq]
      by_cases z : k' = k
      · rw [if_pos z, if_pos z]; exact KR.cons rfl r (ih t)
      · rw [if_neg z, if_neg z]; exact KR.cons rfl r' (ih t)
theorem KR.app {kvs kvs' : List (κ × V)} {ds ds' : List (Dat × Dat)} (h : KR K P io kd kvs ds) (h' : KR K P io kd kvs' ds') : KR K P io kd (kvs ++ kvs') (ds ++ ds') := by
  refine ⟨?_, ?_⟩
  · rw [List.map_append, List.map_append, h.1, h'.1]
  · rw [List.map_append, List.map_append]; exact Reps.append h.2 h'.2
theorem KR.put (hk : ∀ a b, kEq (kd a) (kd b) = decide (a = b)) (k : κ) {v : V} {d : Dat} (r : Rep K P io v d) {kvs : List (κ × V)} {ds : List (Dat × Dat)} (h : KR K P io kd kvs ds) : KR K P io kd (putK kvs k v) (stD ds (kd k) d) := by
  unfold putK stD
  rw [← h.any hk k]
  by_cases z : (kvs.any fun kv => decide (kv.1 = k)) = true
  · rw [if_pos z, if_pos z]; exact h.repl hk k r
  · rw [if_neg z, if_neg z]; exact h.app (KR.cons rfl r KR.nil)
end
/-- a display's keys -/
def isKey : Dat → Bool
  | .int _ => true
  | .str _ => true
  | _ => false
theorem isKey_ok {K : PySem.W.Frag} {g : Gh} {v : V} {d : Dat} (h : isKey d = true) (r : RepG K g v d) : ∃ k : Key, v = kV k ∧ d = keyD k := by
  cases d with
  | int i => cases r; exact ⟨.inl i, rfl, rfl⟩
  | str x => cases r; exact ⟨.inr x, rfl, rfl⟩
  | _ => cases h
def mergeD (ds more : List (Dat × Dat)) : List (Dat × Dat) := more.foldl (fun acc p => stD acc p.1 p.2) ds
theorem KR.merge {K : PySem.W.Frag} {P : Hp} {io : List Addr} : ∀ {more : List (Key × V)} {ms : List (Dat × Dat)} {kvs : List (Key × V)} {ds : List (Dat × Dat)}, KR K P io keyD more ms → KR K P io keyD kvs ds → KR K P io keyD (mergeK kvs more) (mergeD ds ms) := by
  intro more
  induction more with
  | nil =>
    intro ms kvs ds h h'
    rcases h.ind with ⟨_, rfl⟩ | ⟨_, _, _, _, _, e, _⟩
    · exact h'
    · cases e
  | cons p more ih =>
    intro ms kvs ds h h'
    rcases h.ind with ⟨e, _⟩ | ⟨k, v, d, kvs', ds', e, rfl, r, t⟩
    · cases e
    · cases e
      exact ih (ms := ds') (ds := stD ds (keyD k) d) t (h'.put kEq_key k r)
def dispM : List (M Dat × M Dat) → M (List (Dat × Dat))
  | [] => pur []
  | (mk, mv) :: r => bnd mk fun k => bnd mv fun v => bnd (dispM r) fun ps => pur ((k, v) :: ps)
def dicM (ms : List (M Dat × M Dat)) : M Dat := bnd (dispM ms) fun ps => if (ps.all fun p => isKey p.1) = true then pur (.dic (mergeD [] ps)) else fail
section
variable {X : Cx}
inductive GPs (X : Cx) : List (Option Expr) → List Expr → List (M Dat × M Dat) → Prop where
  | nil : GPs X [] [] []
  | cons {k v : Expr} {ks : List (Option Expr)} {vs : List Expr} {mk mv : M Dat} {ms : List (M Dat × M Dat)} (hk : GE X k mk) (hv : GE X v mv) (r : GPs X ks vs ms) : GPs X (some k :: ks) (v :: vs) ((mk, mv) :: ms)
def exE (X : Cx) (W : WX) (m : M Dat) : TE := fun σ H Q => ∃ t, TakesE X t W ∧ rdE X.K t W m σ H Q
theorem GE.ex {e : Expr} {m : M Dat} {W : WX} (h : GE X e m) : PE X e (exE X W m) := ⟨fun pins s σ H Q I ⟨t, tk, q⟩ => (h.run t W tk).run pins s σ H Q I q⟩
theorem GPs.pps {W : WX} {pos : Pos} : ∀ {ks : List (Option Expr)} {vs : List Expr} {ms : List (M Dat × M Dat)}, GPs X ks vs ms → PPs X pos ks vs (ms.map fun p => (exE X W p.1, exE X W p.2))
  | _, _, _, .nil => pps_nil
  | _, _, _, .cons hk hv r => pps_cons hk.ex hv.ex r.pps
theorem GPs.facts : ∀ {ks : List (Option Expr)} {vs : List Expr} {ms : List (M Dat × M Dat)}, GPs X ks vs ms → ks.all (·.isSome) = true ∧ ks.length = vs.length ∧ ks.length = ms.length
  | _, _, _, .nil => ⟨rfl, rfl, rfl⟩
  | _, _, _, .cons hk hv r => by
    obtain ⟨h1, h2, h3⟩ := r.facts
    exact ⟨by simpa using h1, by simp [h2], by simp [h3]⟩
def RPs (K : PySem.W.Frag) (g : Gh) (vs : List (V × V)) (ds : List (Dat × Dat)) : Prop := RepsG K g (vs.map (·.1)) (ds.map (·.1)) ∧ RepsG K g (vs.map (·.2)) (ds.map (·.2))
theorem pairs_at {t : Ent} {W : WX} (tk : TakesE X t W) {σ : L2.St} : ∀ {ms : List (M Dat × M Dat)} {g : Gh} {s : Sto} {H : Hp} {Q : List (V × V) → Hp → Prop}, LRel X.K t g s σ H → atG X.K t W (RPs X.K) g s σ H (dispM ms s) Q → tPairs (ms.map fun p => (exE X W p.1, exE X W p.2)) σ H Q
  | [], g, s, H, Q, L, q => at_here (v := []) L q ⟨.nil, .nil⟩
  | (mk, mv) :: r, g, s, H, Q, L, q => by
    refine ⟨t, tk, rd_seq (R := RepG X.K) L q fun k g1 s1 x H1 e1 L1 r1 q1 => ⟨t, tk, rd_seq (R := RepG X.K) L1 q1 fun v g2 s2 y H2 e2 L2 r2 q2 => ?_⟩⟩
    refine pairs_at tk L2 ?_
    refine at_seq (R := RPs X.K) q2 fun ps g3 s3 vs H3 e3 L3 r3 q3 => ?_
    exact at_here (v := (x, y) :: vs) L3 q3 ⟨.cons (e3.le.rep (e2.le.rep r1)) r3.1, .cons (e3.le.rep r2) r3.2⟩
theorem rps_keys {K : PySem.W.Frag} {g : Gh} : ∀ {vs : List (V × V)} {ds : List (Dat × Dat)}, RPs K g vs ds → (ds.all fun p => isKey p.1) = true → ∃ kvs : List (Key × V), vs = kvs.map (fun kv => (kV kv.1, kv.2)) ∧ KR K g.P g.io keyD kvs ds
  | [], [], _, _ => ⟨[], rfl, KR.nil⟩
  | [], _ :: _, h, _ => by cases h.1
  | _ :: _, [], h, _ => by cases h.1
  | (x, y) :: vs, (a, b) :: ds, h, z => by
    rw [List.all_cons, Bool.and_eq_true] at z
    obtain ⟨h1, h2⟩ := h
    cases h1 with
    | cons r1 t1 =>
      cases h2 with
      | cons r2 t2 =>
        obtain ⟨kvs, e, k⟩ := rps_keys (vs := vs) (ds := ds) ⟨t1, t2⟩ z.2
        obtain ⟨ky, e1, e2⟩ := isKey_ok z.1 r1
        have e1 : x = kV ky := e1
        have e2 : a = keyD ky := e2
        exact ⟨(ky, y) :: kvs, by rw [List.map_cons, ← e, ← e1], KR.cons e2 r2 k⟩
theorem len_mergeK (kvs : List (Key × V)) : (mergeK [] kvs).length ≤ kvs.length := by
  have := length_mergeK kvs []
  simpa using this
/-- {k: v, ..} -/
theorem ge_disp {keys : List (Option Expr)} {values : List Expr} {ms : List (M Dat × M Dat)} {pos : Pos} (h : GPs X keys values ms) (h0 : keys ≠ []) (h15 : keys.length ≤ 15) : GE X (.Dict keys values pos) (dicM ms) := ⟨fun t W tk => PE.imp (pe_disp (h.pps (W := W) (pos := pos)) h.facts.1 h.facts.2.1 h0 h15) fun σ H Q ⟨g, s, L, q⟩ p hp => by
  have tD : t.H p = none := L.ex.toEK.free hp
  have pD : g.P p = none := by
    cases e : g.P p with
    | none => rfl
    | some u =>
      rcases L.gr.sub p u e with z | ⟨_, o, z⟩
      · rw [hp] at z; cases z
      · rw [hp] at z; cases z
  have iD : ¬ p ∈ g.io := fun z => by
    obtain ⟨o, h⟩ := L.gr.dom p z
    rw [hp] at h; cases h
  have tP : t.g.P p = none := by
    cases e : t.g.P p with
    | none => rfl
    | some u => rw [L.ex.le.p p u e] at pD; cases pD
  have ti : ¬ p ∈ t.g.io := fun z => iD (L.ex.le.i.mem z)
  have own0 : ∀ (i : Nat) (d : Dat), s.env[i]? = some (.own d) → σ[i]? ≠ some (some (.ref p)) := fun i d e z => by
    obtain ⟨a, h1, h2, _⟩ := L.own i d e
    rw [z] at h1
    cases h1
    obtain ⟨o, ho⟩ := h2.there
    rw [hp] at ho; cases ho
  have L1 : LRel X.K t g s σ (upd H p (.dK [])) := L.poke pD iD tD own0
  have L2 := L1.pin (D := p) pD iD upd_same own0
  have ek0 : ∀ {g' : Gh} {cs' : List (Option Dat)} {H' : Hp}, EK [] g s.cs (upd H p (.dK [])) g' cs' H' → EK [] g s.cs H g' cs' H' := fun {g' cs' H'} e => by
    have up : ∀ {a : Addr} {o : HO}, H a = some o → (upd H p (.dK [])) a = some o := fun {a o} z => by
      rw [upd_ne (fun y => by subst y; rw [hp] at z; cases z)]; exact z
    refine ⟨e.le, fun a o z n nx => e.keep a o (up z) n nx, fun a o z => e.there a o (up z), fun a z => ?_, fun a z => ?_⟩
    · rcases e.new a z with y | y
      · exact .inl y
      · refine .inr ?_
        by_cases w : a = p
        · subst w; exact hp
        · rw [upd_ne w] at y; exact y
    · rcases e.live a z with y | y
      · exact .inl y
      · refine .inr ?_
        by_cases w : a = p
        · subst w; exact hp
        · rw [upd_ne w] at y; exact y
  have tk' : TakesE X ⟨t.x, t.g, t.cs, upd t.H p (.dK []), t.lam⟩ W := ⟨tk.tk, fun a b f c z => tk.lam a b f c z⟩
  refine pairs_at (t := ⟨t.x, t.g, t.cs, upd t.H p (.dK []), t.lam⟩) tk' L2 ?_
  unfold dicM at q
  have q : atE X.K t W g s σ H ((dispM ms s).bnd _) Q := q
  cases e : dispM ms s with
  | stuck => rw [e] at q; exact q.elim
  | exc x s' =>
    rw [e] at q
    intro g' H' cls dd ek' L' r'
    exact q g' H' cls dd (ek0 ek') (L'.unpin tD L.xin tP ti).1 r'
  | ret ps s' =>
    rw [e] at q
    have q : atE X.K t W g s σ H ((if (ps.all fun p => isKey p.1) = true then pur (.dic (mergeD [] ps)) else fail : M Dat) s') Q := q
    by_cases z : (ps.all fun p => isKey p.1) = true
    case neg => rw [if_neg z] at q; exact q.elim
    rw [if_pos z] at q
    intro g' vs H' ek' L' r'
    obtain ⟨Lu, pD', iD', ow'⟩ := L'.unpin tD L.xin tP ti
    have hD' : H' p = some (.dK []) := ek'.keep p _ upd_same (fun y => iD (live_in y)) (by simp)
    obtain ⟨kvs, ev, kr⟩ := rps_keys r' z
    have le : GLe g' ⟨upd g'.P p (.dK (mergeK [] kvs)), g'.io⟩ := ⟨Le.new pD', List.prefix_refl _⟩
    have hl : kvs.length ≤ 15 := by
      have h1 : ∀ {ms : List (M Dat × M Dat)} {s : Sto} {ps : List (Dat × Dat)} {s' : Sto}, dispM ms s = .ret ps s' → ps.length = ms.length := by
        intro ms
        induction ms with
        | nil => intro s ps s' e; cases e; rfl
        | cons m ms ih =>
          intro s ps s' e
          obtain ⟨mk, mv⟩ := m
          unfold dispM at e
          have e : ((mk s).bnd fun k => bnd mv fun v => bnd (dispM ms) fun ps => pur ((k, v) :: ps)) = .ret ps s' := e
          cases e1 : mk s with
          | ret k s1 =>
            rw [e1] at e
            have e : ((mv s1).bnd fun v => bnd (dispM ms) fun ps => pur ((k, v) :: ps)) = .ret ps s' := e
            cases e2 : mv s1 with
            | ret v s2 =>
              rw [e2] at e
              have e : ((dispM ms s2).bnd fun ps => pur ((k, v) :: ps)) = .ret ps s' := e
              cases e3 : dispM ms s2 with
              | ret qs s3 =>
                rw [e3] at e
                cases e
                rw [List.length_cons, List.length_cons, ih e3]
              | exc _ _ => rw [e3] at e; cases e
              | stuck => rw [e3] at e; cases e
            | exc _ _ => rw [e2] at e; cases e
            | stuck => rw [e2] at e; cases e
          | exc _ _ => rw [e1] at e; cases e
          | stuck => rw [e1] at e; cases e
      have h2 := h1 e
      have h3 := kr.length
      have h4 := h.facts.2.2
      omega
    refine ⟨hD', kvs, ev, hl, ?_⟩
    refine q ⟨upd g'.P p (.dK (mergeK [] kvs)), g'.io⟩ (.ref p) _ ?_ ?_ ?_
    · have ek1 := ek0 ek'
      refine ⟨ek1.le.trans le, fun a o y n nx => ?_, fun a o y => ?_, ek1.new, ek1.live⟩
      · rw [upd_ne (fun w => by subst w; rw [hp] at y; cases y)]; exact ek1.keep a o y n nx
      · obtain ⟨o', h'⟩ := ek1.there a o y
        exact ⟨o', by rw [upd_ne (fun w => by subst w; rw [hp] at y; cases y)]; exact h'⟩
    · exact (Lu.poke (o := .dK (mergeK [] kvs)) pD' iD' tD ow').fixed pD' iD' tD upd_same ow'
    · have km := KR.merge (kr) (KR.nil (K := X.K) (P := g'.P) (io := g'.io) (kd := keyD))
      exact .dicK upd_same km.1 (le.reps km.2)⟩
/-- {} -/
theorem ge_dic0 {pos : Pos} : GE X (.Dict [] [] pos) (pur (.dic [])) := ⟨fun t W tk => PE.imp pe_dnewK fun σ H Q ⟨g, s, L, q⟩ p hp => at_new (o := .dK []) L q hp fun g' _ h => .dicK (kvs := []) h rfl .nil⟩
end
end Zw

namespace Zw
open PySem L2 PyProof.Rows PySem.Spec ClX
/-! ### a op b op' c -/
def chainM (mo mo' : Dat → Dat → M Dat) (ma mb mc : M Dat) : M Dat := bnd ma fun x => bnd mb fun y => bnd (mo x y) fun z => match z with
  | .bl c => if c = true then bnd mc fun w => mo' y w else pur (.bl false)
  | _ => fail
def chainT (mo mo' : Dat → Dat → M Dat) (mt : Dat → M Bool) (ma mb mc : M Dat) : M Bool := bnd ma fun x => bnd mb fun y => bnd (mo x y) fun z => match z with
  | .bl c => if c = true then bnd mc fun w => bnd (mo' y w) mt else pur false
  | _ => fail
section
variable {X : Cx} {a b c : Expr} {op op' : CmpOp} {ma mb mc : M Dat} {mo mo' : Dat → Dat → M Dat} {pos : Pos}
abbrev VOp2 (X : Cx) (f : Value → Value → Sem Value) (mo : Dat → Dat → M Dat) : Prop := VOp X (fun us => match us with | [u, v] => f u v | _ => pure .none) (fun ds => match ds with | [x, y] => mo x y | _ => fail)
theorem ge_chain (ho : VOp2 X (compareOp op) mo) (ho' : VOp2 X (compareOp op') mo') (ha : GE X a ma) (hb : GE X b mb) (hc : GE X c mc) (hm : lastMarks [op, op'] [b, c] = false) : GE X (.Compare a [op, op'] [b, c] pos) (chainM mo mo' ma mb mc) :=
  GE.of fun t W tk pins sh σ H g s Q I L q => Compare_chain (ha.seq tk I L q fun u sh1 v g1 s1 H1 d I1 rv e1 L1 r1 q1 => chain_link (hb.seq tk I1 L1 q1 fun u2 sh2 v2 g2 s2 H2 d2 I2 rv2 e2 L2 r2 q2 =>
    ho.seq tk (xs := [v, v2]) (us := [u, u2]) (ds := [d, d2]) I2 (.cons rv (.cons rv2 .nil)) L2 (.cons (e2.le.rep r1) (.cons r2 .nil)) q2 fun u3 sh3 v3 g3 s3 H3 d3 I3 rv3 e3 L3 r3 q3 => by
      cases d3 with
      | bl k =>
        cases r3
        cases rv3
        refine wpAny_truthy_bool ?_
        cases k with
        | false => exact ite_ff ⟨.bl false, H3, I3, rfl, at_here (v := V.bl false) L3 q3 (.bl false)⟩
        | true => exact ite_tt (chain_last (hc.seq tk I3 L3 q3 fun u4 sh4 v4 g4 s4 H4 d4 I4 rv4 e4 L4 r4 q4 => ho' t W tk pins sh4 σ H4 g4 s4 [v2, v4] [u2, u4] [d2, d4] Q I4 (.cons rv2 (.cons rv4 .nil)) L4 (.cons (e4.le.rep (e3.le.rep r2)) (.cons r4 .nil)) q4))
      | _ => exact q3.elim)) hm
theorem gt_chain {mt : Dat → M Bool} (hv : VTr X mt) (ho : VOp2 X (compareOp op) mo) (ho' : VOp2 X (compareOp op') mo') (ha : GE X a ma) (hb : GE X b mb) (hc : GE X c mc) (hm : lastMarks [op, op'] [b, c] = false) : GT X (.Compare a [op, op'] [b, c] pos) (chainT mo mo' mt ma mb mc) :=
  GT.of fun t W tk pins sh σ H g s Q I L q => isTrue_chain (ha.seq tk I L q fun u sh1 v g1 s1 H1 d I1 rv e1 L1 r1 q1 => test_link (hb.seq tk I1 L1 q1 fun u2 sh2 v2 g2 s2 H2 d2 I2 rv2 e2 L2 r2 q2 =>
    ho.seq tk (xs := [v, v2]) (us := [u, u2]) (ds := [d, d2]) I2 (.cons rv (.cons rv2 .nil)) L2 (.cons (e2.le.rep r1) (.cons r2 .nil)) q2 fun u3 sh3 v3 g3 s3 H3 d3 I3 rv3 e3 L3 r3 q3 => by
      cases d3 with
      | bl k =>
        cases r3
        cases rv3
        refine wpAny_truthy_bool ?_
        cases k with
        | false => exact ite_ff ⟨H3, I3, at_here (v := false) L3 q3 rfl⟩
        | true => exact ite_tt (test_last (hc.seq tk I3 L3 q3 fun u4 sh4 v4 g4 s4 H4 d4 I4 rv4 e4 L4 r4 q4 =>
            ho'.seq tk (xs := [v2, v4]) (us := [u2, u4]) (ds := [d2, d4]) I4 (.cons rv2 (.cons rv4 .nil)) L4 (.cons (e4.le.rep (e3.le.rep r2)) (.cons r4 .nil)) q4 fun u5 sh5 v5 g5 s5 H5 d5 I5 rv5 e5 L5 r5 q5 => hv t W tk pins sh5 σ H5 g5 s5 v5 u5 d5 Q I5 rv5 L5 r5 q5))
      | _ => exact q3.elim)) hm
end
/-! ### x, y, z = a, b, c (on one line: the stores are swapped) -/
def par3 (i j l : Nat) (ds : List Dat) : MS := fun s => match ds with
  | [a, b, c] => .nx ⟨((s.env.set i (.val a)).set j (.val b)).set l (.val c), s.cs⟩
  | _ => .stuck
section
variable {X : Cx}
theorem gs_par3 {i j l : Nat} {x y z : Str} {a b c : Expr} {ma : M (List Dat)} {px py pz pt pos : Pos} {kt k2 : Nat} {pt2 : Pos} (hc : X.calm = true) (hN : X.N.Nodup) (hi : X.N[i]? = some x) (hj : X.N[j]? = some y) (hl : X.N[l]? = some z) (hij : i ≠ j) (hil : i ≠ l) (hjl : j ≠ l)
    (hx : X.env.scope.names.lookup x = some .local) (hy : X.env.scope.names.lookup y = some .local) (hz : X.env.scope.names.lookup z = some .local) (ha : GA X [a, b, c] ma)
    (hw : swappedStores [.Tuple [.Name x px, .Name y py, .Name z pz] kt pt] (.Tuple [a, b, c] k2 pt2) X.env = pure (some [x, y, z])) :
    GS X (.Assign [.Tuple [.Name x px, .Name y py, .Name z pz] kt pt] (.Tuple [a, b, c] k2 pt2) pos) (bndS ma (par3 i j l)) := ⟨fun t W tk => PS.imp (ps_par3 hc hN hi hj hl hij hil hjl hx hy hz (ha.run t W tk) hw rfl) fun D σ H ⟨g, s, L, q⟩ =>
  rdS_seq (R := RepsG X.K) (Q1 := fun vs H1 => ∃ u v w, vs = [u, v, w] ∧ D.nx (((σ.set i (some u)).set j (some v)).set l (some w)) H1) L q fun ds g1 s1 vs H1 ek L1 r q1 => by
    unfold par3 at q1
    split at q1
    · cases r with
      | @cons v d vs' ds' r1 r2 =>
        cases r2 with
        | @cons w e vs'' ds'' r2 r3 =>
          cases r3 with
          | @cons u f _ _ r3 r4 =>
            cases r4
            exact ⟨v, w, u, rfl, q1 g1 _ H1 (GLe.refl _) (((L1.setVal (i := i) r1).setVal (i := j) r2).setVal (i := l) r3)⟩
    · exact q1.elim⟩
end
/-! ### x op= e -/
section
open PySem.W PySem.Calls
variable {prog : Program} {w : World} {A : Around} {E : Value → Shared → Prop} {s : Shared} {K : Frag} {x C y f : Addr} {ox oy : Obj} {od oe : Option Obj}
theorem anyM_look {M : Model} {h : Heap} {f : Value → Sem Bool} : ∀ {l : List Value}, (∀ c ∈ l, Looks M h (f c) false) → Looks M h (l.anyM f) false
  | [], _ => Looks.now
  | c :: l, H => by
    rw [List.anyM_cons]
    exact (H c List.mem_cons_self).andThen (f := fun b => if b = true then pure true else l.anyM f) (anyM_look fun c hc => H c (List.mem_cons_of_mem _ hc))
theorem fills_no {M : Model} {h : Heap} {nm : String} {add : Bool} (X : K.In h) (hn : noInp K C nm = true) : Looks M h (fillsInplaceSlot (.ref C) nm add) false := by
  unfold noInp at hn
  cases e : clsIn K C with
  | none => rw [e] at hn; cases hn
  | some cd =>
    rw [e] at hn
    have Lm : Looks M h (mroOf (.ref C)) cd.mro := (looks_clsIn X e).andThen (f := fun cd => pure cd.mro) .now
    intro A Q E s k q
    have X' : K.In s.heap := X.keeps k
    unfold fillsInplaceSlot
    refine wpAny_bind ((Lm.keeps k).here ?_)
    refine Looks.here (anyM_look fun c hc => ?_) q
    have L1 : Looks M s.heap (typeLookup c (dunderI nm)) none := looks_findIn X' (He.eqO_ok (List.all_eq_true.mp hn c hc))
    intro A Q E s k q
    exact wpAny_bind ((L1.keeps k).here (wpAny_pure q))
theorem inp_of {op : Operator} {b : Value} {Q : Value → Shared → Prop} (X : K.In s.heap) (I : InstAt s.heap x ox C od) (hn : noInp K C op.info.2 = true) (h : wpAny (model prog w) A (binaryOp1 op.info.2 (.ref x) b) (fun r s' => ∃ v, r = some v ∧ Q v s') E s) : wpAny (model prog w) A (inplaceOp op (.ref x) b) Q E s := by
  have L1 : Looks (model prog w) s.heap (typeOf (.ref x)) (.ref C) := I.type
  have L2 : Looks (model prog w) s.heap (fillsInplaceSlot (.ref C) op.info.2 (op == .Add)) false := fills_no X hn
  unfold inplaceOp
  refine wpAny_holding (wpAny_bind (L1.here (wpAny_bind (L2.here ?_))))
  simp only [Bool.false_eq_true, if_false]
  refine wpAny_bind (wpAny_mono h (fun r s' hr => ?_) fun _ _ e => e)
  obtain ⟨v, rfl, hq⟩ := hr
  exact wpAny_pure hq
theorem bin1_same {nm : String} {Q : Value → Shared → Prop} (X : K.In s.heap) (I : InstAt s.heap x ox C od) (J : InstAt s.heap y oy C oe) (hc : selfFirst K C = true) (hs : findIn K (.ref C) (PySem.dunder nm) = some (some (.ref f))) (hf : isFn K (.ref f) = true)
    (h : wpAny (model prog w) A (call (.ref f) [.ref x, .ref y]) (PySem.W.CmpBack Q) E s) : wpAny (model prog w) A (binaryOp1 nm (.ref x) (.ref y)) (fun r s' => ∃ v, r = some v ∧ Q v s') E s := by
  obtain ⟨cd, rest, hcd, hm⟩ := ksp_first hc
  have one := ksp_try X I hs hf h
  obtain ⟨hh, g, d, tt, os⟩ := s
  have L1 : Looks (model prog w) hh (typeOf (.ref x)) (.ref C) := I.type
  have L2 : Looks (model prog w) hh (typeOf (.ref y)) (.ref C) := J.type
  have L3 : Looks (model prog w) hh (fillsNumberSlot (.ref C) nm) true := fills_K X hcd hm hs
  unfold binaryOp1
  refine wpAny_bind (L1.at (wpAny_bind (L2.at (wpAny_bind (L3.at ?_)))))
  simp only [beq_self_eq_true, if_true]
  ksp_lk
  refine wpAny_mono one (fun r s' hr' => ?_) fun _ _ e => e
  obtain ⟨v, rfl, hq⟩ := hr'
  ksp_lk
  exact ⟨v, rfl, hq⟩
theorem bin1_T {T nm : String} {b : Value} {fo ro rc : Option Value} {Q : Value → Shared → Prop} (X : K.In s.heap) (I : InstAt s.heap x ox C od) (hb : typeOf b = pure (.type T)) (hc : selfFirst K C = true)
    (hs : findIn K (.ref C) (PySem.dunder nm) = some (some (.ref f))) (hf : isFn K (.ref f) = true) (hr : findIn K (.ref C) (dunderR nm) = some rc) (hp : rc = none ∨ ∃ g : Addr, rc = some (.ref g))
    (h1 : findIn K (.type T) (PySem.dunder nm) = some fo) (h2 : findIn K (.type T) (dunderR nm) = some ro) (hsub : subIn K (.type T) (.ref C) = some false)
    (h : wpAny (model prog w) A (call (.ref f) [.ref x, b]) (PySem.W.CmpBack Q) E s) : wpAny (model prog w) A (binaryOp1 nm (.ref x) b) (fun r s' => ∃ v, r = some v ∧ Q v s') E s := by
  obtain ⟨cd, rest, hcd, hm⟩ := ksp_first hc
  have one := ksp_try X I hs hf h
  obtain ⟨hh, g, d, tt, os⟩ := s
  have L1 : Looks (model prog w) hh (typeOf (.ref x)) (.ref C) := I.type
  have L2 : Looks (model prog w) hh (typeOf b) (.type T) := Looks.of_pure hb
  have L3 : Looks (model prog w) hh (fillsNumberSlot (.ref C) nm) true := fills_K X hcd hm hs
  have L4 : Looks (model prog w) hh (fillsNumberSlot (.type T) nm) ((fo.isSome && !isSeqSlot fo) || (ro.isSome && !isSeqSlot ro)) := ksp_fillsT X h1 h2
  have L5 : Looks (model prog w) hh (isSubtype (.type T) (.ref C)) false := looks_subIn X hsub
  have L6 : Looks (model prog w) hh (numberSlotInPython (.ref C) nm) true := ksp_inPy X hs hr hp
  have L7 : Looks (model prog w) hh (numberSlotInPython (.type T) nm) false := Looks.of_pure rfl
  have L8 : Looks (model prog w) hh (typeLookup (.type T) (dunderR nm)) ro := looks_findIn X h2
  generalize ((fo.isSome && !isSeqSlot fo) || (ro.isSome && !isSeqSlot ro)) = right at L4
  have hne : (Value.ref C == Value.type T) = false := Bool.eq_false_iff.mpr fun q => by cases beq_iff_eq.mp q
  unfold binaryOp1
  refine wpAny_bind (L1.at (wpAny_bind (L2.at (wpAny_bind (L3.at ?_)))))
  simp only [hne, Bool.false_eq_true, if_false]
  cases right with
  | false =>
    ksp_lk
    refine wpAny_mono one (fun r s' hr' => ?_) fun _ _ e => e
    obtain ⟨v, rfl, hq⟩ := hr'
    ksp_lk
    exact ⟨v, rfl, hq⟩
  | true =>
    ksp_lk
    refine wpAny_mono one (fun r s' hr' => ?_) fun _ _ e => e
    obtain ⟨v, rfl, hq⟩ := hr'
    ksp_lk
    exact ⟨v, rfl, hq⟩
end
section
variable {X : Cx} {E : En} {k : Nat}
def En.rInp (E : En) (nm : String) : Rule := fun ds => match ds with
  | [.ins c fs, y] => (match E.att c (dunder nm), E.cl c with
    | some (.meth q), some ci => if E.right c y = true ∧ nm ∈ opNames ∧ ci.ip = true then some (E.call q [.ins c fs, y]) else none
    | _, _ => none)
  | _ => none
theorem ok_rInp (N : EnOk (md X) k E) (hr : Room k X.A) {op : Operator} {nm : String} (hi : op.info.2 = nm) : ROk X (f2 (inplaceOp op)) (E.rInp nm) := fun t W tk pins sh σ H g s xs us ds m Q e I rv L rp q => by
  subst hi
  match xs, us, ds, rv, rp, e with
  | [x, y], [u, v], [dx, dy], .cons r1 (.cons r2 .nil), .cons p1 (.cons p2 .nil), e =>
    have rp : RepsG X.K g [x, y] [dx, dy] := .cons p1 (.cons p2 .nil)
    have rv : Vals [x, y] [u, v] := .cons r1 (.cons r2 .nil)
    cases p1 with
    | @ins a dxa c fs ds h kk r =>
      obtain rfl : u = Value.ref a := r1
      unfold En.rInp at e
      dsimp only at e
      cases ea : E.att c (dunder op.info.2) with
      | none => rw [ea] at e; cases e
      | some at_ =>
        rw [ea] at e
        cases at_ with
        | meth qn =>
          obtain ⟨ci, fi, h1, C, h3, h4, h5⟩ := att_meth N ea
          rw [h1] at e
          dsimp only at e
          by_cases z : E.right c dy = true ∧ op.info.2 ∈ opNames ∧ ci.ip = true
          case neg => rw [if_neg z] at e; cases e
          rw [if_pos z] at e
          cases e
          obtain ⟨ox, od, J⟩ := ins_at I L h
          have bk := call_back N hr h3 tk I rv L rp q
          obtain ⟨z1, z2, z3⟩ := z
          refine inp_of I.kIn J (C.more.ip z3 _ z2) ?_
          cases p2 with
          | @ins b dxb c' fs' ds' h' kk' r' =>
            obtain rfl : v = Value.ref b := r2
            have ec : c' = c := of_decide_eq_true z1
            subst ec
            obtain ⟨oy, oe, J'⟩ := ins_at I L h'
            exact bin1_same I.kIn J J' C.sf h4.at_ h4.fn bk
          | int j =>
            obtain ⟨tj, rfl⟩ := r2
            obtain ⟨rc, hrc, hrp⟩ := C.more.ops _ z2
            obtain ⟨fo, ro, hfo, hro⟩ := N.ty.ity _ z2
            exact bin1_T (T := "int") I.kIn J rfl C.sf h4.at_ h4.fn hrc hrp hfo hro (C.more.os _ (by decide)) bk
          | _ => cases z1
        | _ => cases e
    | _ => cases e
  | [], _, _, .nil, .nil, e => cases e
  | [_], _, _, .cons _ .nil, .cons _ .nil, e =>
    unfold En.rInp at e
    split at e <;> first | cases e | simp_all
  | _ :: _ :: _ :: _, _, _, .cons _ (.cons _ (.cons _ _)), .cons _ (.cons _ (.cons _ _)), e =>
    unfold En.rInp at e
    split at e <;> first | cases e | simp_all
/-- name op= e: the value ahead is read first -/
def augS (i : Nat) (me : M Dat) (mo : Dat → Dat → M Dat) : MS := fun s => match s.env[i]? with
  | some (.val x) => bndS me (fun y => bndS (mo x y) (asgS i)) s
  | _ => .stuck
theorem gs_aug {i : Nat} {x : Str} {e : Expr} {op : Operator} {me : M Dat} {mo : Dat → Dat → M Dat} {pos pos' : Pos} (hN : X.N.Nodup) (hi : X.N[i]? = some x) (hx : Loc X.env.scope x) (hf : X.fn x = true ∨ X.env.scope.names.lookup x = some .local) (he : GE X e me) (ho : VOp2 X (inplaceOp op) mo) :
    GS X (.AugAssign (.Name x pos') op e pos) (augS i me mo) := ⟨fun t W tk => ⟨fun pins s σ H D I h => by
  obtain ⟨g, st, L, q⟩ := h
  unfold augS at q
  cases ev : st.env[i]? with
  | none => rw [ev] at q; exact q.elim
  | some sl =>
    rw [ev] at q
    cases sl with
    | val d =>
      have q : atS X.K t W g (bndS me (fun y => bndS (mo d y) (asgS i)) st) D := q
      obtain ⟨v, e1, rv⟩ := L.val i d ev
      obtain ⟨m, hn, hl⟩ := I.loc
      have vis : Vis X.env.scope x := by rcases hx with k | k; exact .inl k; exact .inr (.inl k)
      obtain ⟨u, r, l⟩ := hl i x v hi e1 vis
      refine wpAny_AugAssign_Name ?_
      have go : wpAny (model X.prog X.w) X.A (eval e X.env) (fun w s₂ => wpAny (model X.prog X.w) X.A (inplaceOp op u w) (fun r s₃ => wpAny (model X.prog X.w) X.A (storeName X.env x r) (fun _ => SP X pins D .next) X.xe s₃) X.xe s₂) X.xe s := by
        have P1 := (he.run t W tk).run pins s σ H _ I (rdS_seq (R := RepG X.K) (Q1 := fun y H1 => ∃ g1 s1 dy, GLe g g1 ∧ LRel X.K t g1 s1 σ H1 ∧ RepG X.K g1 y dy ∧ atS X.K t W g1 (bndS (mo d dy) (asgS i) s1) D) L q fun dy g1 s1 y H1 ek L1 r1 q1 => ⟨g1, s1, dy, ek.le, L1, r1, q1⟩)
        refine thn P1 fun wv s1 ⟨y, H1, I1, ry, g1, st1, dy, le1, L1, r1, q1⟩ => ?_
        have A2 := (rdS_seq (R := RepG X.K) (m := mo d dy) (f := asgS i) (Q1 := fun z H2 => ∃ g2 s2 dz, LRel X.K t g2 s2 σ H2 ∧ RepG X.K g2 z dz ∧ atS X.K t W g2 (asgS i dz s2) D) L1 q1 fun dz g2 s2 z H2 ek L2 r2 q2 => ⟨g2, s2, dz, L2, r2, q2⟩)
        obtain ⟨g1', st1', L1', A2⟩ := A2
        refine thn (ho t W tk pins s1 σ H1 g1 st1 [v, y] [u, wv] [d, dy] (fun z H2 => ∃ g2 s2 dz, LRel X.K t g2 s2 σ H2 ∧ RepG X.K g2 z dz ∧ atS X.K t W g2 (asgS i dz s2) D) I1 (.cons r (.cons ry .nil)) L1 (.cons (le1.rep rv) (.cons r1 .nil)) ?_) fun rv3 s3 ⟨z, H3, I3, rz, g3, st3, dz, L3, r3, q3⟩ => ?_
        · have : ∀ o : Out Dat, mo d dy st1 = o → atE X.K t W g1 st1 σ H1 o (fun z H2 => ∃ g2 s2 dz, LRel X.K t g2 s2 σ H2 ∧ RepG X.K g2 z dz ∧ atS X.K t W g2 (asgS i dz s2) D) := fun o eo => by
            unfold bndS at q1
            rw [eo] at q1
            cases o with
            | ret dz s2 => exact fun g2 z H2 ek L2 r2 => ⟨g2, s2, dz, L2, r2, atS_le ek.le q1⟩
            | exc x s2 => exact fun g2 H2 cls dd ek L2 r2 => q1 g2 σ H2 cls dd ek.le L2 r2
            | stuck => exact q1
          exact this _ rfl
        · exact store_ok I3 hN hi hx rz (fun s4 I4 => ⟨_, H3, I4, q3 g3 _ H3 (GLe.refl _) (L3.setVal r3)⟩) hf
      rcases l with ⟨hk, hm⟩ | ⟨hk, c, hc, hcell⟩
      · exact wpAny_loadName_local I.ok.kind hk hn hm go
      · rcases hk with hk | hk
        · exact wpAny_loadName_cell I.ok.kind hk hc hcell go
        · rcases hx with k | k
          · have : X.env.scope.names.lookup x = some .free := hk
            rw [k] at this; cases this
          · have : X.env.scope.names.lookup x = some .free := hk
            rw [k] at this; cases this
    | _ => exact q.elim⟩⟩
end
end Zw

namespace Zw
open PySem L2 PyProof.Rows PySem.Spec ClX
/-! ### list * int, text * int -/
def repOk (n : Nat) (k : Int) : Bool := decide (-(2 ^ 63) ≤ k ∧ k < 2 ^ 63 ∧ n * k.toNat ≤ sizeLine)
/-- [..] * k -/
def repLM (ma : M (List Dat)) (k : Int) : M Dat := bnd ma fun ds => if ds.length ≤ sizeLine ∧ repOk ds.length k = true then pur (.lst (List.replicate k.toNat ds).flatten) else fail
def rRepS : Rule := p2 fun x y => match x, y with
  | .str z, .int k => if 1 < k ∧ k < 2 ^ 63 ∧ 0 < z.length ∧ z.length * k.toNat ≤ sizeLine ∧ (Str.mk ((List.replicate k.toNat z.cps).foldl (· ++ ·) #[])).length ≤ sizeLine then some (.str ⟨(List.replicate k.toNat z.cps).foldl (· ++ ·) #[]⟩) else none
  | _, _ => none
theorem Reps.rep {K : PySem.W.Frag} {P : Hp} {io : List Addr} {vs : List V} {ds : List Dat} (r : Reps K P io vs ds) : ∀ n : Nat, Reps K P io (List.replicate n vs).flatten (List.replicate n ds).flatten
  | 0 => .nil
  | n + 1 => by
    rw [List.replicate_succ, List.replicate_succ, List.flatten_cons, List.flatten_cons]
    exact Reps.append r (Reps.rep r n)
section
variable {X : Cx}
theorem ge_repL {es : List Expr} {ma : M (List Dat)} {k : Int} {j : Nat} {p p' pos : Pos} (ha : GA X es ma) : GE X (.BinOp (.List es p) .Mult (.Constant (.int k) j p') pos) (repLM ma k) := ⟨fun t W tk => PE.imp (pe_op op_rep (pe_lst (ha.run t W tk)) pe_int) fun σ H Q ⟨g, s, L, q⟩ =>
  rd_seq (R := RepsG X.K) (Q1 := fun xs H1 => xs.length ≤ sizeLine ∧ ∀ p, H1 p = none → rRep (.ref p) (.int k) (upd H1 p (.lst xs)) Q) L q fun ds g1 s1 vs H1 ek L1 r q1 => by
    have q1 : atE X.K t W g1 s1 σ H1 ((if ds.length ≤ sizeLine ∧ repOk ds.length k = true then pur (.lst (List.replicate k.toNat ds).flatten) else fail : M Dat) s1) Q := q1
    by_cases z : ds.length ≤ sizeLine ∧ repOk ds.length k = true
    case neg => rw [if_neg z] at q1; exact q1.elim
    rw [if_pos z] at q1
    obtain ⟨z0, z⟩ := z
    obtain ⟨z1, z2, z3⟩ := of_decide_eq_true z
    refine ⟨by rw [r.length]; exact z0, fun p hp => ⟨p, k, vs, rfl, rfl, upd_same, z1, z2, by rw [r.length]; exact z3, fun p' hp' => ?_⟩⟩
    obtain ⟨L2, e2⟩ := L1.laid (o := .lst vs) hp
    refine at_new (X := X) (s := s1) (W := W) (d := .lst (List.replicate k.toNat ds).flatten) L2 (fun g' v H' e' L' r' => q1 g' v H' (e2.trans e') L' r') hp' fun g' l' hg => .lst (.inl (.inl hg)) (Reps.rep (l'.reps (e2.le.reps r)) _)⟩
theorem ok_repS : ROk X (f2 (binaryOp .Mult)) rRepS := ROk.p2 fun pins sh σ H g x y u v dx dy d Q e I r1 r2 sb p1 p2 q => by
  split at e
  · rename_i z k
    split at e
    · rename_i hz
      cases e
      cases p1
      cases p2
      obtain ⟨t1, rfl⟩ := r1
      obtain ⟨t2, rfl⟩ := r2
      obtain ⟨z1, z2, z3, z4, z5⟩ := hz
      have s1 : (sizeLine : Nat) = 16777216 := by decide
      refine PySem.P.mul_str (by rw [Bool.or_eq_false_iff, decide_eq_false_iff_not, decide_eq_false_iff_not]; omega) (fun _ _ => ?_) (fun _ _ => ?_) ?_
      · have : (z.length : Int) * k ≤ 16777216 := by
          have e : (k.toNat : Int) = k := Int.toNat_of_nonneg (by omega)
          rw [← e, ← Int.natCast_mul]; omega
        have h2 : (z.length : Int) ≤ (2 ^ 63 - 1) / k := by
          rw [Int.le_ediv_iff_mul_le (by omega)]
          omega
        omega
      · exact decide_eq_false (by omega)
      · rw [if_neg (by omega), if_neg (by simp; omega)]
        exact ⟨z5, ⟨.str _, H, I.tok _, ⟨_, rfl⟩, q _ (.str _)⟩⟩
    · cases e
  · cases e
end
/-! ### f-strings: {x}, {x!s} -/
def En.fmt (E : En) (conv : Int) (d : Dat) : M Dat := match d with
  | .ins c fs => (match E.att c "__str__" with
    | some (.meth q) => bnd (E.call q [.ins c fs]) fun z => match z with
      | .str y => if y.length ≤ sizeLine then pur (.str y) else fail
      | _ => fail
    | _ => fail)
  | .str y => if y.length ≤ sizeLine ∧ conv = -1 then pur (.str y) else fail
  | .int i => if strOk i = true then pur (.str (toString i)) else fail
  | _ => fail
section
variable {X : Cx} {E : En} {k : Nat}
theorem ge_fmtE {e : Expr} {me : M Dat} {pos : Pos} {conv : Int} (hc : conv = -1 ∨ conv = 115) (N : EnOk (md X) k E) (hr : Room (k + 2) X.A) (he : GE X e me) : GE X (.FormattedValue e conv none pos) (bnd me (E.fmt conv)) := by
  refine GE.of fun t W tk pins sh σ H g s Q I L q => ?_
  have key : ∀ {u : Value} {sh1 : Shared} {v : V} {g1 : Gh} {s1 : Sto} {H1 : Hp} {d : Dat}, Inv X pins σ H1 sh1 → RelV v u → LRel X.K t g1 s1 σ H1 → RepG X.K g1 v d → atE X.K t W g1 s1 σ H1 (E.fmt conv d s1) Q →
      (conv = -1 → wpAny (model X.prog X.w) X.A (formatField u Str.empty) (EP X pins σ Q) X.xe sh1) ∧ (conv = 115 → wpAny (model X.prog X.w) X.A (convS u) (fun r s₂ => wpAny (model X.prog X.w) X.A (formatField r Str.empty) (EP X pins σ Q) X.xe s₂) X.xe sh1) := by
    intro u sh1 v g1 s1 H1 d I1 rv L1 r1 q1
    have hr1 : Room (k + 1) X.A.in1 := hr.in1
    cases r1 with
    | str y =>
      obtain ⟨ty, rfl⟩ := rv
      unfold En.fmt at q1
      dsimp only at q1
      by_cases z : y.length ≤ sizeLine ∧ conv = -1
      · rw [if_pos z] at q1
        obtain ⟨z1, z2⟩ := z
        refine ⟨fun _ => wpAny_formatField_str ⟨.str y, H1, I1, ⟨ty, rfl⟩, at_here L1 q1 (.str y)⟩ ⟨.str y, H1, I1.tok _, ⟨_, rfl⟩, at_here L1 q1 (.str y)⟩ z1, fun z => ?_⟩
        rw [z2] at z; cases z
      · rw [if_neg z] at q1; exact q1.elim
    | int i =>
      obtain ⟨ti, rfl⟩ := rv
      unfold En.fmt at q1
      dsimp only at q1
      by_cases z : strOk i = true
      · rw [if_pos z] at q1
        have z := of_decide_eq_true z
        refine ⟨fun _ => wpAny_formatField_int z ⟨.str _, H1, I1.tok _, ⟨_, rfl⟩, at_here L1 q1 (.str _)⟩, fun _ => ?_⟩
        show wpAny _ _ (pyStrObj (.int i ti)) _ _ _
        exact pyStrObj_int z (wpAny_formatField_str ⟨.str _, H1, I1.tok _, ⟨_, rfl⟩, at_here L1 q1 (.str _)⟩ ⟨.str _, H1, I1.tok _, ⟨_, rfl⟩, at_here L1 q1 (.str _)⟩ (int_text_fits z))
      · rw [if_neg z] at q1; exact q1.elim
    | @ins a dxa c fs ds h kk r =>
      obtain rfl : u = Value.ref a := rv
      unfold En.fmt at q1
      dsimp only at q1
      cases ea : E.att c "__str__" with
      | none => rw [ea] at q1; exact q1.elim
      | some at_ =>
        rw [ea] at q1
        cases at_ with
        | meth qn =>
          dsimp only at q1
          obtain ⟨ci, fi, z1, C, z3, z4, z5⟩ := att_meth N ea
          obtain ⟨ox, od, J⟩ := ins_at I1 L1 h
          refine ⟨fun _ => ?_, fun _ => ?_⟩
          · have I1' := I1.tok (sh1.toks + 1)
            refine PySem.W.kfo_fieldS (show X.A.in1.units < cLine from hr1.units0) I1.kIn J C.more.fm C.more.cm z4.at_ z4.fn ?_
            refine own_then (A' := X.A.in1) N (hr1.mono (by omega)) e0_1 tk z3 I1' (xs := [.ref a]) (us := [.ref a]) (.cons rfl .nil) L1 (.cons (.ins h kk r) .nil) q1 fun u2 sh2 v2 g2 s2 H2 d2 I2 rv2 e2 L2 r2 q2 => ?_
            cases r2 with
            | str y =>
              obtain ⟨ty, rfl⟩ := rv2
              dsimp only at q2
              by_cases z : y.length ≤ sizeLine
              · rw [if_pos z] at q2
                exact ⟨.str y, H2, I2, ⟨ty, rfl⟩, at_here L2 q2 (.str y)⟩
              · rw [if_neg z] at q2; exact q2.elim
            | _ => exact q2.elim
          · show wpAny _ _ (pyStrObj (.ref a)) _ _ _
            refine PySem.W.kfo_str hr.units0 I1.kIn J z4.at_ z4.fn ?_
            refine own_then (A' := X.A) N (hr.mono (by omega)) e0_A tk z3 I1 (xs := [.ref a]) (us := [.ref a]) (.cons rfl .nil) L1 (.cons (.ins h kk r) .nil) q1 fun u2 sh2 v2 g2 s2 H2 d2 I2 rv2 e2 L2 r2 q2 => ?_
            cases r2 with
            | str y =>
              obtain ⟨ty, rfl⟩ := rv2
              dsimp only at q2
              by_cases z : y.length ≤ sizeLine
              · rw [if_pos z] at q2
                exact wpAny_formatField_str ⟨.str y, H2, I2, ⟨ty, rfl⟩, at_here L2 q2 (.str y)⟩ ⟨.str y, H2, I2.tok _, ⟨_, rfl⟩, at_here L2 q2 (.str y)⟩ z
              · rw [if_neg z] at q2; exact q2.elim
            | _ => exact q2.elim
        | _ => exact q1.elim
    | _ => exact q1.elim
  rcases hc with rfl | rfl
  · exact wpAny_FormattedValue_plain (he.seq tk I L q fun u sh1 v g1 s1 H1 d I1 rv e1 L1 r1 q1 => (key I1 rv L1 r1 q1).1 rfl)
  · exact wpAny_FormattedValue_s (he.seq tk I L q fun u sh1 v g1 s1 H1 d I1 rv e1 L1 r1 q1 => (key I1 rv L1 r1 q1).2 rfl)
end
end Zw

namespace Zw
open PySem L2 PyProof.Rows PySem.Spec ClX
/-! ### containers that the frame alone holds -/
section
variable {K : PySem.W.Frag} {t : Ent} {g : Gh} {s : Sto} {σ : L2.St} {H : Hp} {i : Nat} {a : Addr} {d : Dat}
theorem LRel.setOwnAt (L : LRel K t g s σ H) (c : CellOk K g H a d) (hP : g.P a = none) (ht : t.H a = none) (hi : ¬ a ∈ g.io) (ho : ∀ (j : Nat) (d' : Dat), s.env[j]? = some (.own d') → σ[j]? ≠ some (some (.ref a))) : LRel K t g ⟨s.env.set i (.own d), s.cs⟩ (σ.set i (some (.ref a))) H := by
  have ne : ∀ {j : Nat} {x : Option V}, j ≠ i → σ[j]? = some x → (σ.set i (some (.ref a)))[j]? = some x := fun h e => by rw [List.getElem?_set_ne (Ne.symm h)]; exact e
  refine ⟨L.xin, L.gr, L.ex, by simpa using L.len, fun j e q => ?_, fun j e q => ?_, fun j e q => ?_, fun j k b e e' z1 z2 z3 z4 => ?_, fun j k e e' z1 z2 => ?_, fun j c q => ?_⟩
  · rcases set_at q with ⟨_, z⟩ | ⟨n, z⟩
    · cases z
    · obtain ⟨u, h1, h2⟩ := L.val j e z
      exact ⟨u, ne n h1, h2⟩
  · rcases set_at q with ⟨rfl, z⟩ | ⟨n, z⟩
    · cases z
      have hi' : j < σ.length := by
        have h1 := (List.getElem?_eq_some_iff.mp q).1
        rw [List.length_set, L.len] at h1
        exact h1
      exact ⟨a, List.getElem?_set_self hi', c, hP, ht, hi⟩
    · obtain ⟨b, h1, h2⟩ := L.own j e z
      exact ⟨b, ne n h1, h2⟩
  · rcases set_at q with ⟨_, z⟩ | ⟨n, z⟩
    · cases z
    · obtain ⟨b, h1, h2⟩ := L.slf j e z
      exact ⟨b, ne n h1, h2⟩
  · rcases set_at z1 with ⟨e1, z⟩ | ⟨n1, z⟩
    · rcases set_at z2 with ⟨e2, z'⟩ | ⟨n2, z'⟩
      · rw [e1, e2]
      · subst e1
        rw [List.getElem?_set_ne (Ne.symm n2)] at z4
        have hi' : j < σ.length := by
          have h1 := (List.getElem?_eq_some_iff.mp z1).1
          rw [List.length_set, L.len] at h1
          exact h1
        rw [List.getElem?_set_self hi'] at z3
        cases z3
        exact absurd z4 (ho k e' z')
    · rcases set_at z2 with ⟨e2, z'⟩ | ⟨n2, z'⟩
      · subst e2
        rw [List.getElem?_set_ne (Ne.symm n1)] at z3
        have hi' : k < σ.length := by
          have h1 := (List.getElem?_eq_some_iff.mp z2).1
          rw [List.length_set, L.len] at h1
          exact h1
        rw [List.getElem?_set_self hi'] at z4
        cases z4
        exact absurd z3 (ho j e z)
      · rw [List.getElem?_set_ne (Ne.symm n1)] at z3
        rw [List.getElem?_set_ne (Ne.symm n2)] at z4
        exact L.dst j k b e e' z z' z3 z4
  · rcases set_at z1 with ⟨_, z⟩ | ⟨n1, z⟩
    · cases z
    · rcases set_at z2 with ⟨_, z'⟩ | ⟨n2, z'⟩
      · cases z'
      · exact L.one j k e e' z z'
  · rcases set_at q with ⟨_, z⟩ | ⟨n, z⟩
    · cases z
    · obtain ⟨f, h1, h2⟩ := L.lam j c z
      exact ⟨f, ne n h1, h2⟩
/-- a new object goes into a slot -/
theorem LRel.newOwn {o : HO} (L : LRel K t g s σ H) (n : H a = none) (c : CellOk K g (upd H a o) a d) : LRel K t g ⟨s.env.set i (.own d), s.cs⟩ (σ.set i (some (.ref a))) (upd H a o) := by
  have ht : t.H a = none := L.ex.toEK.free n
  have hP : g.P a = none := by
    cases e : g.P a with
    | none => rfl
    | some u =>
      rcases L.gr.sub a u e with z | ⟨_, o, z⟩
      · rw [n] at z; cases z
      · rw [n] at z; cases z
  have hi : ¬ a ∈ g.io := fun z => by
    obtain ⟨o, h⟩ := L.gr.dom a z
    rw [n] at h; cases h
  have ho : ∀ (i : Nat) (d : Dat), s.env[i]? = some (.own d) → σ[i]? ≠ some (some (.ref a)) := fun i d e z => by
    obtain ⟨b, h1, h2, _⟩ := L.own i d e
    rw [z] at h1
    cases h1
    obtain ⟨o, ho⟩ := h2.there
    rw [n] at ho; cases ho
  exact (L.poke (o := o) hP hi ht ho).setOwnAt c hP ht hi ho
end
def ownL (i : Nat) (ds : List Dat) : MS := fun s => if ds.length ≤ sizeLine then .nx ⟨s.env.set i (.own (.lst ds)), s.cs⟩ else .stuck
def own0 (i : Nat) : MS := fun s => .nx ⟨s.env.set i (.own (.dic [])), s.cs⟩
section
variable {X : Cx}
/-- x = [..], held alone -/
theorem gs_ownL {i : Nat} {x : Str} {es : List Expr} {ma : M (List Dat)} {p pos' pos : Pos} (hN : X.N.Nodup) (hi : X.N[i]? = some x) (hx : Loc X.env.scope x) (hf : X.fn x = true ∨ X.env.scope.names.lookup x = some .local) (ha : GA X es ma) :
    GS X (.Assign [.Name x pos'] (.List es p) pos) (bndS ma (ownL i)) := ⟨fun t W tk => PS.imp (ps_set hN hi hx (pe_lst (ha.run t W tk)) rfl hf) fun D σ H ⟨g, s, L, q⟩ =>
  rdS_seq (R := RepsG X.K) (Q1 := fun xs H1 => xs.length ≤ sizeLine ∧ ∀ p, H1 p = none → gName i (.ref p) σ (upd H1 p (.lst xs)) D.nx) L q fun ds g1 s1 vs H1 ek L1 r q1 => by
    unfold ownL at q1
    by_cases z : ds.length ≤ sizeLine
    · rw [if_pos z] at q1
      refine ⟨by rw [r.length]; exact z, fun p hp => q1 g1 _ _ (GLe.refl _) (L1.newOwn hp ⟨vs, upd_same, r⟩)⟩
    · rw [if_neg z] at q1; exact q1.elim⟩
theorem gs_own0 {i : Nat} {x : Str} {p pos' pos : Pos} (hN : X.N.Nodup) (hi : X.N[i]? = some x) (hx : Loc X.env.scope x) (hf : X.fn x = true ∨ X.env.scope.names.lookup x = some .local) :
    GS X (.Assign [.Name x pos'] (.Dict [] [] p) pos) (own0 i) := ⟨fun t W tk => PS.imp (ps_set hN hi hx pe_dnewK rfl hf) fun D σ H ⟨g, s, L, q⟩ => fun p hp => q g _ _ (GLe.refl _) (L.newOwn hp (.inl ⟨[], upd_same, rfl, .nil⟩))⟩
/-! ### x.append(e) -/
def isOwnL : Option Slot → Bool
  | some (.own (.lst _)) => true
  | _ => false
def appM (i : Nat) (me : M Dat) : M Dat := fun s => if isOwnL s.env[i]? = true then bnd me (fun y => fun s => match s.env[i]? with
  | some (.own (.lst ds)) => if ds.length < sizeLine then .ret .non ⟨s.env.set i (.own (.lst (ds ++ [y]))), s.cs⟩ else .stuck
  | _ => .stuck) s else .stuck
theorem ge_append {i : Nat} {x : Str} {e : Expr} {me : M Dat} {p apos pos : Pos} (hN : X.N[i]? = some x) (hv : Vis X.env.scope x) (hd : (x == ("__debug__" : Str)) = false) (hcd : (x == ("__classdict__" : Str)) = false) (he : GE X e me) (hs : noStar [e] = true) (hline : (apos.endLine == pos.line) = true) :
    ∀ t W, TakesE X t W → PE X (.Call (.Attribute (.Name x p) "append" apos) [e] [] pos) (fun σ H Q => ∃ g s, LRel X.K t g s σ H ∧ (match appM i me s with
      | .ret d s' => ∀ g' H', GLe g g' → LRel X.K t g' s' σ H' → Q .non H'
      | .exc y s' => ∀ g' H' cls dd, GLe g g' → LRel X.K t g' s' σ H' → XRep X.K g' cls dd y → W cls dd σ H'
      | .stuck => False)) := fun t W tk => by
  have st : starEach [e] X.env = (false, eval e X.env) :: starEach [] X.env := (star_cons (env := X.env) hs).1
  refine PE.imp (pe_bm PySem.F.plainAttrs_list PySem.F.slot_list_append PySem.F.type_list_append mt_append (pe_var (pos := p) (i := i) hN hv hd hcd) ((ga_cons he ga_nil st).run t W tk) rfl (by rw [st]; rfl) hline st rfl) fun σ H Q ⟨g, s, L, q⟩ => ?_
  unfold appM at q
  by_cases z : isOwnL s.env[i]? = true
  case neg => rw [if_neg z] at q; exact q.elim
  rw [if_pos z] at q
  obtain ⟨ds0, e0⟩ : ∃ ds, s.env[i]? = some (.own (.lst ds)) := by
    unfold isOwnL at z
    split at z
    · exact ⟨_, by assumption⟩
    · cases z
  obtain ⟨a, h1, ⟨vs0, h2, h3⟩, _⟩ := L.own i _ e0
  refine ⟨.ref a, h1, .inl ⟨rfl, vs0, .inl (.inl h2)⟩, g, s, L, ?_⟩
  have q : (match (me s).bnd (fun (y : Dat) => (fun s => match s.env[i]? with
    | some (.own (.lst ds)) => (if ds.length < sizeLine then .ret Dat.non ⟨s.env.set i (.own (.lst (ds ++ [y]))), s.cs⟩ else .stuck : Out Dat)
    | _ => .stuck : M Dat)) with
      | .ret d s' => ∀ g' H', GLe g g' → LRel X.K t g' s' σ H' → Q .non H'
      | .exc y s' => ∀ g' H' cls dd, GLe g g' → LRel X.K t g' s' σ H' → XRep X.K g' cls dd y → W cls dd σ H'
      | .stuck => False) := q
  show atA X.K t W g s σ H ((me s).bnd (fun d => bnd nilA fun ds => pur (d :: ds))) _
  cases em : me s with
  | stuck => rw [em] at q; exact q.elim
  | exc y s' => rw [em] at q; exact fun g' H' cls dd ek L' r' => q g' H' cls dd ek.le L' r'
  | ret y s' =>
    rw [em] at q
    intro g' vs' H' ek L' r'
    cases r' with
    | cons r1 r2 =>
      cases r2
      have q : (match (match s'.env[i]? with
        | some (.own (.lst ds)) => (if ds.length < sizeLine then .ret Dat.non ⟨s'.env.set i (.own (.lst (ds ++ [y]))), s'.cs⟩ else .stuck : Out Dat)
        | _ => .stuck) with
          | .ret d s' => ∀ g' H', GLe g g' → LRel X.K t g' s' σ H' → Q .non H'
          | .exc y s' => ∀ g' H' cls dd, GLe g g' → LRel X.K t g' s' σ H' → XRep X.K g' cls dd y → W cls dd σ H'
          | .stuck => False) := q
      cases e1 : s'.env[i]? with
      | none => rw [e1] at q; exact q.elim
      | some sl =>
        rw [e1] at q
        cases sl with
        | own dd =>
          cases dd with
          | lst ds =>
            dsimp only at q
            by_cases zz : ds.length < sizeLine
            case neg => rw [if_neg zz] at q; exact q.elim
            rw [if_pos zz] at q
            obtain ⟨b, k1, ⟨vs, k2, k3⟩, _⟩ := L'.own i _ e1
            have k1' := k1
            rw [h1] at k1
            cases k1
            exact ⟨_, vs, _, rfl, rfl, k2, by rw [k3.length]; exact zz, q g' _ ek.le (L'.setOwn e1 k1' ⟨_, upd_same, Reps.append k3 (.cons r1 .nil)⟩)⟩
          | _ => exact q.elim
        | _ => exact q.elim
/-- as a statement -/
theorem gs_append {i : Nat} {x : Str} {e : Expr} {me : M Dat} {p apos pos pos' : Pos} (hN : X.N[i]? = some x) (hv : Vis X.env.scope x) (hd : (x == ("__debug__" : Str)) = false) (hcd : (x == ("__classdict__" : Str)) = false) (he : GE X e me) (hs : noStar [e] = true) (hline : (apos.endLine == pos.line) = true) :
    GS X (.Expr (.Call (.Attribute (.Name x p) "append" apos) [e] [] pos) pos') (bndS (appM i me) fun _ => nextS) := ⟨fun t W tk => PS.imp (ps_expr (ge_append hN hv hd hcd he hs hline t W tk) rfl) fun D σ H ⟨g, s, L, q⟩ => ⟨g, s, L, by
  unfold bndS at q
  cases em : appM i me s with
  | stuck => rw [em] at q; exact q.elim
  | exc y s' => rw [em] at q; exact fun g' H' cls dd le L' r' => q g' σ H' cls dd le L' r'
  | ret d s' => rw [em] at q; exact fun g' H' le L' => q g' σ H' le L'⟩⟩
end
end Zw

namespace Zw
open PySem L2 PyProof.Rows PySem.Spec ClX
/-! ### defs that say super().__init__() -/
structure SupScope (N P : List Str) (sc : Scope) : Prop where
  kind : sc.kind = .function
  co : sc.isCoroutine = false
  gen : sc.isGenerator = false
  nd : N.Nodup
  pre : N.take P.length = P
  par : ∀ x ∈ P, sc.names.lookup x = some .local
  nocell : ∀ y ∈ sc.names, y.2 ≠ .cell
  free : ∀ x, sc.names.lookup x = some .free → x = "__class__"
  sup : sc.names.lookup ("super" : Str) = some .globalImplicit
  cls : sc.names.lookup ("__class__" : Str) = some .free
abbrev envS (qual : Str) (scope : Scope) (L f : Addr) (cd : Value) (cc : Addr) : Env := PySem.W.envX qual scope L f cd [("__class__", cc)]
def cxS (CX : CXT) (P : Program) (w : World) (K : PySem.W.Frag) (mg : Str → Option Value) (base : Heap) (N : List Str) (qual : Str) (scope : Scope) (f : Addr) (cd : Value) (cc : Addr) (A : Around) (outer : List Env) (s : Shared) (H : Hp) (E : XK) : Cx where
  prog := P
  w := w
  K := K
  mg := mg
  base := base
  A := A.deeper (envS qual scope s.heap.objs.size f cd cc)
  N := N
  s_0 := s
  H_0 := H
  env := envS qual scope s.heap.objs.size f cd cc
  outer := outer
  stack := envS qual scope s.heap.objs.size f cd cc :: outer
  ex := []
  calm := true
  fn := fun x => x != "__class__"
  pn := []
  xe := fun e s' => wpAny (model P w) (A.deeper (envS qual scope s.heap.objs.size f cd cc)) (leaving (envS qual scope s.heap.objs.size f cd cc) e) (fun _ s'' => CX outer H s E e s'') (fun e' s'' => CX outer H s E e' s'') s'
theorem look_rev {ps : List Str} {us : List Value} (nd : ps.Nodup) : ∀ {i : Nat} {y : Str} {u : Value}, ps[i]? = some y → us[i]? = some u → (ps.zip us).reverse.lookup y = some u := by
  intro i y u hp hu
  have hm : (y, u) ∈ ps.zip us := by
    have : (ps.zip us)[i]? = some (y, u) := by rw [List.getElem?_zip_eq_some]; exact ⟨hp, hu⟩
    exact List.mem_of_getElem? this
  have hk : ((ps.zip us).reverse.map (·.1)).Nodup := by
    rw [List.map_reverse]
    refine List.Nodup.perm (nd.sublist (l₁ := (ps.zip us).map (·.1)) ?_) (List.reverse_perm _).symm
    exact (by
      clear hp hu hm nd
      induction ps generalizing us with
      | nil => simp
      | cons p ps ih =>
        cases us with
        | nil => simp
        | cons u us => simpa using ih)
  have key : ∀ {l : List (Str × Value)}, (l.map (·.1)).Nodup → (y, u) ∈ l → l.lookup y = some u := by
    intro l
    induction l with
    | nil => intro _ h; cases h
    | cons p l ih =>
      obtain ⟨a, b⟩ := p
      intro hn h
      rw [List.map_cons, List.nodup_cons] at hn
      rcases List.mem_cons.mp h with h | h
      · cases h; simp [List.lookup]
      · have hne : y ≠ a := fun z => hn.1 (List.mem_map.mpr ⟨(y, u), h, z⟩)
        rw [List.lookup_cons, beq_eq_false_iff_ne.mpr hne]
        exact ih hn.2 h
  exact key hk (List.mem_reverse.mpr hm)
theorem inv_startS {CX : CXT} {P : Program} {w : World} {K : PySem.W.Frag} {mg : Str → Option Value} {base : Heap} {N ps : List Str} {qual : Str} {scope : Scope} {f cc : Addr} {cd : Value} {A : Around} {outer : List Env} {s : Shared} {H : Hp} {E : XK} {us : List Value} {vs : List V} {h1 : Heap} {tk : Nat} {oc : Obj} {vc : Option Value}
    (S : SupScope N ps scope) (hd : A.handled = none) (e0 : Env0 P w K mg base A outer s H) (hl : vs.length = ps.length) (r : Vals vs us) (hcc : K.lookup cc = some oc) (hoc : oc.data = .cell vc)
    (hns : h1.Ns s.heap.objs.size fun x => (ps.zip us).reverse.lookup x) (hk : ∀ b o, s.heap.get? b = some o → h1.get? b = some o) :
    Inv (cxS CX P w K mg base N qual scope f cd cc A outer s H E) [] (L2.start N vs) H { s with heap := h1, toks := tk } := by
  have hpl : ps.length ≤ N.length := by have := congrArg List.length S.pre; rw [List.length_take] at this; omega
  have noA : ∀ b : Addr, b ∉ (cxS CX P w K mg base N qual scope f cd cc A outer s H E).ex := fun b z => absurd (show b ∈ ([] : List Addr) from z) (by simp)
  have hb : base.get? cc = some oc := e0.mod.kin _ _ hcc
  have one : ∀ {y : Str} {c : Addr}, (cxS CX P w K mg base N qual scope f cd cc A outer s H E).env.cells.lookup y = some c → y = "__class__" ∧ c = cc := fun {y c} h => by
    have h : List.lookup y [(("__class__" : Str), cc)] = some c := h
    rw [List.lookup_cons] at h
    split at h
    · rename_i q; cases h; exact ⟨beq_iff_eq.mp q, rfl⟩
    · cases h
  refine ⟨⟨e0.mod, S.kind, rfl, rfl, Nat.le_refl _, fun y z c h1 h2 => ?_, fun y hy => ?_, fun y c z h => ?_, fun _ => hd, Around.frames_deeper e0.frames, .inr ⟨rfl, rfl⟩, fun b z => absurd z (noA b), e0.bs, e0.bsz, fun b _ _ => noA b, fun b z => absurd z (noA b), e0.funs, e0.frf⟩,
    rfl, e0.bare, Un.kept hk, ⟨_, hns, fun i y v h1 h2 h3 => ?_⟩, fun y c h => ?_, e0.hok.fresh (Nat.le_refl _), fun y c h => ?_, fun p hp => absurd (show p ∈ ([] : List (Addr × Obj)) from hp) (by simp), e0.hok.kept hk, ?_⟩
  · rw [(one h1).1, (one h2).1]
  · have hy : scope.names.lookup y = some .cell ∨ scope.names.lookup y = some .free := hy
    rcases hy with hy | hy
    · exact absurd rfl (S.nocell _ (PySem.mem_of_lookup hy))
    · have := S.free y hy
      subst this
      exact ⟨cc, by show List.lookup _ [(("__class__" : Str), cc)] = _; rw [List.lookup_cons, beq_self_eq_true]⟩
  · have z : (y != "__class__") = true := z
    rw [(one h).1] at z
    simp at z
  · have hi : i < vs.length := by
      unfold L2.start at h2
      by_cases hi : i < vs.length
      · exact hi
      · rw [List.getElem?_append_right (by simpa using hi)] at h2
        rw [List.getElem?_replicate] at h2
        split at h2 <;> cases h2
    have ha : vs[i]? = some v := by
      unfold L2.start at h2
      rw [List.getElem?_append_left (by simpa using hi), List.getElem?_map] at h2
      cases e : vs[i]? with
      | none => rw [e] at h2; cases h2
      | some a => rw [e] at h2; cases h2; rfl
    obtain ⟨u, hu, rv⟩ := r.get ha
    have hp : ps[i]? = some y := by
      rw [← S.pre, List.getElem?_take_of_lt (by omega)]; exact h1
    have ndP : ps.Nodup := by rw [← S.pre]; exact S.nd.sublist (List.take_sublist _ _)
    exact ⟨u, rv, .inl ⟨S.par y (List.mem_of_getElem? hp), look_rev ndP hp hu⟩⟩
  · rw [(one h).2]
    exact ⟨vc, oc, hk _ _ (e0.bs _ _ hb).1, hoc⟩
  · rw [(one h).2]
    exact (e0.bs _ _ hb).2
  · unfold L2.start
    show _ = N.length
    rw [List.length_append, List.length_map, List.length_replicate]
    omega
end Zw

namespace Zw
open PySem L2 PyProof.Rows PySem.Spec ClX
/-! ### super().__init__(), in the heap -/
/-- what the text's part of the heap has of a def that says super() -/
structure SupAt (P : Program) (K : PySem.W.Frag) (mg : Str → Option Value) (f cc D : Addr) (fd : FuncData) (slf0 : Str) (cd : Value) : Prop where
  fn : ∃ oc od osl, K.lookup f = some ⟨oc, od, .func fd, osl⟩
  par : ∃ ar : Arg, (fd.params.posonlyargs ++ fd.params.args).head? = some ar ∧ ar.arg = slf0
  code : ∃ (cda : Addr) (ccl : Value) (cdd : Option Addr) (vs : Array Value) (ccs : Array (Option Value)) (file : Str) (tf : Tok), cd = .ref cda ∧ K.lookup cda = some ⟨ccl, cdd, .fields vs, ccs⟩ ∧ vs[2]? = some (.str file tf) ∧ ((P.main.file : Str) == file) = true
  cell : ∃ cl cld csl, K.lookup cc = some ⟨cl, cld, .cell (some (.ref D)), csl⟩
  cls : ∃ cdD, PySem.W.clsIn K D = some cdD
  top : (P.main.scope.names.lookup ("super" : Str)).isSome = false
  glob : mg "super" = none
  opq : PySem.W.nsIn K cStatics "thirdparty.any" = some none
theorem sup_eq {p0 p1 apos pos : Pos} {env : Env} (hline : (apos.endLine == pos.line) = true) :
    eval (.Call (.Attribute (.Call (.Name "super" p0) [] [] p1) "__init__" apos) [] [] pos) env = (do
      let ov ← attributeBase (.Call (.Name "super" p0) [] [] p1) "__init__" env (eval (.Call (.Name "super" p0) [] [] p1) env)
      standAt apos.atName
      let (f, first) ← holding [ov] (getMethod ov "__init__" (do return (← importBound (.Call (.Name "super" p0) [] [] p1) env).getD true))
      callWith pos f first (backTo pos (starEach [] env)) []) := by
  rw [arm_eval_Call]
  unfold methodCall
  rw [form_of (es := []) (show noStar [] = true from rfl) (show (0 : Nat) < 30 by decide)]
  have hp : methodCallPos true (.Call (.Name "super" p0) [] [] p1) env apos pos = pure pos := by unfold methodCallPos; simp [hline]
  simp only [calleeOf, if_true, hp, pure_bind]
  rfl
theorem wp_super {X : Cx} {N ps : List Str} {qual : Str} {scope : Scope} {L f cc D x dx : Addr} {cd : Value} {fd : FuncData} {slf0 : Str} {c : Str} {fs : List (Str × V)} {f2 : Addr} {body : List Stmt} {p0 p1 p2 p3 p4 : Pos} {pins : List (Addr × Obj)} {σ : L2.St} {H : Hp} {s : Shared} {Q : Flow → Shared → Prop} {i : Nat}
    (S : SupScope N ps scope) (T : SupAt X.prog X.K X.mg f cc D fd slf0 cd) (he : X.env = envS qual scope L f cd cc) (I : Inv X pins σ H s) (hi : X.N[i]? = some slf0) (hl : scope.names.lookup slf0 = some .local) (hs : σ[i]? = some (some (.ref x)))
    (hx : H x = some (.ins (He.ga X.K c) dx fs)) (hsub : PySem.W.mroIn X.K (He.ga X.K c) (.ref D) = some true) (hm : PySem.W.ks_superIn X.K (He.ga X.K c) D "__init__" = some (some (.ref f2))) (hline : (p2.endLine == p3.line) = true) (hf2 : PySem.W.fnIn X.K f2 = true) (ht2 : PySem.W.typeIn X.K (.ref f2) = some (.type "function"))
    (h : ∀ h' t', (∀ b o, s.heap.get? b = some o → h'.get? b = some o) → codeAny (model X.prog X.w) X.A (.call (.ref f2) ⟨[.ref x], []⟩) (fun r s' => match r with | .ok (.ret v) => Q .next s' | .ok _ => False | .error e => X.xe e s') { s with heap := h', toks := t' }) :
    PySem.wpAt (model X.prog X.w) X.A (.func body X.env) (exec (.Expr (.Call (.Attribute (.Call (.Name "super" p0) [] [] p1) "__init__" p2) [] [] p3) p4) X.env) Q X.xe s := by
  have KX := I.kIn
  obtain ⟨oc, od, osl, lf⟩ := T.fn
  obtain ⟨ar, hp, har⟩ := T.par
  obtain ⟨cda, ccl, cdd, vs, ccs, file, tf, rfl, lc, hv, hfile⟩ := T.code
  obtain ⟨cl, cld, csl, lcc⟩ := T.cell
  obtain ⟨cdD, hD⟩ := T.cls
  obtain ⟨mA, O, _⟩ := ins_get I.hok hx
  obtain ⟨od', J, _⟩ := O.look
  obtain ⟨m, hns, hloc⟩ := I.loc
  have hself : m slf0 = some (.ref x) := by
    obtain ⟨u, rv, lk⟩ := hloc i slf0 (.ref x) hi hs (.inl (by rw [he]; exact hl))
    cases (show u = Value.ref x from rv)
    rcases lk with ⟨_, q⟩ | ⟨q, _⟩
    · exact q
    · rw [he] at q
      have q : scope.names.lookup slf0 = some .cell ∨ scope.names.lookup slf0 = some .free := q
      rw [hl] at q
      rcases q with q | q <;> cases q
  obtain ⟨oD, hD1, hD2⟩ : ∃ oD, s.heap.get? D = some oD ∧ oD.data = .cls cdD := by
    unfold PySem.W.clsIn at hD
    split at hD
    · rename_i c d cd' sl ho
      cases hD
      exact ⟨_, KX _ _ ho, rfl⟩
    · cases hD
  refine ks_wpAt_Expr_any ?_ I.quiet rfl
  refine ks_wpAt_MethodCall ?_ (sup_eq hline)
  · have hkind : X.env.scope.kind = .function := I.ok.kind
    have hks : X.env.kindOf "super" = some .globalImplicit := by rw [he]; exact S.sup
    have hkc : X.env.kindOf "__class__" = some .free := by rw [he]; exact S.cls
    have hka : X.env.kindOf slf0 = some .local := by rw [he]; exact hl
    obtain ⟨mb, b1, b2⟩ := I.mod.blt
    refine ks_wpAt_super_base (env := X.env) (f := f) (cc := cda) hks hkc (by decide +kernel) (by rw [he]) (KX _ _ lf) rfl hp (by rw [he]) (KX _ _ lc) rfl hv hfile T.top ?_
    refine PySem.W.ks_loadName_global hkind hks (Calls.loadGlobal_builtin (by rw [I.ok.glob]; exact I.mod.glob.keeps I.bk) T.glob (by rw [I.ok.blt]; exact b1.keeps I.bk) ((b2 "super" (by decide +kernel)).trans (show bootBuiltins "super" = some (.type "super") by decide +kernel)) ⟨rfl, ?_⟩)
    refine wpAny_loadName_free hkind hkc (c := cc) (by rw [he]; rfl) ⟨_, KX _ _ lcc, rfl⟩ ?_
    rw [har]
    refine wpAny_loadName_local hkind hka hns hself ?_
    obtain ⟨hh, gg, dd, tt, os⟩ := s
    refine ks_wpAny_isType_cls hD1 hD2 ⟨rfl, ?_⟩
    refine ks_wpAny_call_super hD1 hD2 J.at_ J.cls (fun c e => ?_) (PySem.W.looks_mroIn KX hsub) (fun h' e k => ?_)
    · have := J.no
      unfold PySem.W.notCls at this
      rw [e] at this
      exact Bool.noConfusion this
    · have KX' := KX.keeps k
      cases hc : PySem.W.clsIn X.K (He.ga X.K c) with
      | none => unfold PySem.W.ks_superIn at hm; rw [hc] at hm; cases hm
      | some cdc =>
        unfold PySem.W.ks_superIn at hm
        rw [hc] at hm
        obtain ⟨of, hof, hofc⟩ : ∃ of, h'.get? f2 = some of ∧ of.cls = .type "function" := by
          have ht' : (X.K.lookup f2).map (·.cls) = some (.type "function") := ht2
          cases z : X.K.lookup f2 with
          | none => rw [z] at ht'; cases ht'
          | some of => rw [z] at ht'; exact ⟨of, KX' _ _ z, Option.some.inj ht'⟩
        refine ks_wpAny_getMethod_super e (PySem.W.looks_opaque KX' T.opq) (l₀ := cdc.mro) ?_ rfl KX' hm hof hofc (PySem.W.ks_ne KX J hc) (by decide +kernel) ?_
        · exact fun A Q E s k q => wpAny_bind ((PySem.W.looks_clsIn KX' hc) A _ E s k (wpAny_pure q))
        · have k2 : ∀ b o, h'.get? b = some o → (h'.push (PySem.W.methodObj (.ref f2) (.ref x))).get? b = some o := fun b o e => Heap.get?_push_of_some _ e
          refine PySem.W.callWith_M0 (K := X.K) (g := f2) (self := .ref x) ⟨Heap.get?_push_at rfl rfl, KX'.keeps k2⟩ hf2 ?_
          exact wpAny_call (PySem.W.method_call (Heap.get?_push_at rfl rfl) (h _ _ fun b o e => k2 _ _ (k _ _ e)))
end Zw

namespace Zw
open PySem L2 PyProof.Rows PySem.Spec ClX
/-- super().__init__(): tab tells by the object's class the class whose __init__ runs -/
def superS (E : En) (tab : List (Str × Str)) : MS := fun s => match s.env[(0 : Nat)]? with
  | some (.slf (.ins c fs)) => (match tab.lookup c with
    | some p => (match E.ini p with
      | some fi => if fi.par = fi.dfl.length + 1 then (match fi.con (.ins c fs :: fi.dfl) s.cs with
        | .ret d cs' => .nx ⟨s.env.set 0 (.slf d), cs'⟩
        | _ => .stuck) else .stuck
      | none => .stuck)
    | none => .stuck)
  | _ => .stuck
theorem lrel_afterI {K : PySem.W.Frag} {N : List Str} {g g' : Gh} {cs cs' : List (Option Dat)} {H H' : Hp} {x : Addr} {rest : List V} {d' : Dat} {ds : List Dat} (ho : ∃ o, H x = some o) (ex : GExt [x] g cs H g' cs' H') (gr' : GRel K g' cs' H') (c' : CellOk K g' H' x d') (hP' : g'.P x = none) (hi' : ¬ x ∈ g'.io) (r' : RepsG K g' rest ds) (hl : rest.length + 1 ≤ N.length) : LRel K ⟨[x], g, cs, H, fun _ _ => False⟩ g' ⟨envIn N.length d' ds, cs'⟩ (L2.start N (.ref x :: rest)) H' := by
  have L := lrel_startI (N := N) gr' c' hP' hi' r' hl
  refine ⟨fun a z => by
      have : a = x := by simpa using z
      subst this; exact ho, L.gr, ex, L.len, L.val, fun i d e => ?_, fun i d e => ?_, L.dst, L.one, L.lam⟩
  · obtain ⟨a, h1, h2, h3, h4, h5⟩ := L.own i d e
    obtain ⟨o, ho'⟩ := h2.there
    have h4 : H' a = none := h4
    rw [ho'] at h4; cases h4
  · obtain ⟨a, h1, h2, h3, ⟨h4, _⟩, h5⟩ := L.slf i d e
    have : a = x := by simpa using h4
    subst this
    exact ⟨a, h1, h2, h3, ⟨h4, ho⟩, h5⟩
theorem envIn_set {n : Nat} {d0 d : Dat} {ds : List Dat} : (envIn n d0 ds).set 0 (.slf d) = envIn n d ds := by
  unfold envIn; rfl
theorem sup_ok {D : Md} {f cc Dc : Addr} {N ps : List Str} {k : Nat} {rest : List Stmt} {scope : Scope} {name qual slf0 : Str} {params : Arguments} {dV kV doc pm cdv ct oc : Value} {an od : Option Addr} {osl : Array (Option Value)} {m : MS} {E : En} {tab : List (Str × Str)} {p0 p1 p2 p3 p4 : Pos}
    (lk : D.K.lookup f = some ⟨oc, od, .func (PySem.W.fnX name qual params (.Expr (.Call (.Attribute (.Call (.Name "super" p0) [] [] p1) "__init__" p2) [] [] p3) p4 :: rest) scope [("__class__", cc)] dV kV doc pm an cdv ct), osl⟩) (hcd : PySem.W.codeIn D.K cdv qual = true) (S : SupScope N ps scope) (hlen : ps.length ≤ N.length)
    (T : SupAt D.P D.K D.mg f cc Dc (PySem.W.fnX name qual params (.Expr (.Call (.Attribute (.Call (.Name "super" p0) [] [] p1) "__init__" p2) [] [] p3) p4 :: rest) scope [("__class__", cc)] dV kV doc pm an cdv ct) slf0 cdv) (h0 : ps[0]? = some slf0) (hline : (p2.endLine == p3.line) = true) {k' : Nat} (hkk : k' ≤ k) (NE : EnOk D k' E)
    (ht : ∀ c p fi, tab.lookup c = some p → E.ini p = some fi → PySem.W.mroIn D.K (He.ga D.K c) (.ref Dc) = some true ∧ PySem.W.ks_superIn D.K (He.ga D.K c) Dc "__init__" = some (some (.ref (fi.adr D.K))) ∧ PySem.W.fnIn D.K (fi.adr D.K) = true ∧ PySem.W.typeIn D.K (.ref (fi.adr D.K)) = some (.type "function"))
    (hb : ∀ X, XOk X D N scope k f qual → GSs X rest m) :
    FnOk D.P D.w D.K D.mg D.base (CX D.P D.w) (k + 1) f (PySem.W.fnX name qual params (.Expr (.Call (.Attribute (.Call (.Name "super" p0) [] [] p1) "__init__" p2) [] [] p3) p4 :: rest) scope [("__class__", cc)] dV kV doc pm an cdv ct) ps (spInit D.K ps.length (runIn ps.length N.length (seqS (superS E tab) m))) := by
  refine ⟨fun vs H Q E h => h.1, fun A outer s H args us vs Q E' hr e0 hbd r hsp => ?_⟩
  obtain ⟨hl, xa, restv, g, cs, d0, ds, rfl, gr, c0, hP, hi, rr, q⟩ := hsp
  have hl' : restv.length + 1 = ps.length := by simpa using hl
  have hd : ds.length + 1 = ps.length := by rw [← rr.length]; exact hl'
  have KX : D.K.In s.heap := e0.mod.kin.keeps fun b o e => (e0.bs b o e).1
  have lim : s.heap.NoLimit := e0.mod.nolimit.keeps fun b o e => (e0.bs b o e).1
  obtain ⟨cl, cld, csl, lcc⟩ := T.cell
  have q : match (if ds.length + 1 = ps.length then endIn (seqS (superS E tab) m ⟨envIn N.length d0 ds, cs⟩) else .stuck) with
    | .ret d cs' => ∀ g' H', GExt [xa] g cs H g' cs' H' → GRel D.K g' cs' H' → CellOk D.K g' H' xa d → g'.P xa = none → ¬ xa ∈ g'.io → Q .non H'
    | .exc e cs' => ∀ g' H' cls dd, GExt [xa] g cs H g' cs' H' → GRel D.K g' cs' H' → XRep D.K g' cls dd e → E' cls dd H'
    | .stuck => False := q
  rw [if_pos hd] at q
  -- what super().__init__() makes of the object
  have sup : ∃ c fs p fi d cs1, d0 = .ins c fs ∧ tab.lookup c = some p ∧ E.ini p = some fi ∧ fi.par = fi.dfl.length + 1 ∧ fi.con (.ins c fs :: fi.dfl) cs = .ret d cs1 ∧ seqS (superS E tab) m ⟨envIn N.length d0 ds, cs⟩ = m ⟨envIn N.length d ds, cs1⟩ := by
    have e0' : (envIn N.length d0 ds)[(0 : Nat)]? = some (.slf d0) := by unfold envIn; rfl
    unfold seqS superS at q ⊢
    dsimp only at q ⊢
    rw [e0'] at q ⊢
    cases d0 with
    | ins c fs =>
      dsimp only at q ⊢
      cases e1 : tab.lookup c with
      | none => rw [e1] at q; exact q.elim
      | some p =>
        rw [e1] at q
        dsimp only at q ⊢
        cases e2 : E.ini p with
        | none => rw [e2] at q; exact q.elim
        | some fi =>
          rw [e2] at q
          dsimp only at q ⊢
          by_cases e3 : fi.par = fi.dfl.length + 1
          case neg => rw [if_neg e3] at q; exact q.elim
          rw [if_pos e3] at q ⊢
          cases e4 : fi.con (.ins c fs :: fi.dfl) cs with
          | ret d cs1 =>
            rw [e4] at q
            exact ⟨c, fs, p, fi, d, cs1, rfl, e1, e2, e3, e4, by dsimp only; rw [envIn_set]⟩
          | exc x cs1 => rw [e4] at q; exact q.elim
          | stuck => rw [e4] at q; exact q.elim
    | _ => exact q.elim
  obtain ⟨c, fs, p, fi, d, cs1, rfl, e1, e2, e3, e4, e5⟩ := sup
  rw [e5] at q
  obtain ⟨t1, t2, t3, t4⟩ := ht c p fi e1 e2
  obtain ⟨dx, fv, hx, hx2, hx3⟩ := c0
  refine ks_codeAny_call_defAt (binds := ps.zip us) hr.depth (KX _ _ lk) rfl lim (PySem.W.codeRec_of KX hcd) rfl hbd S.nocell (fun y hy => S.par y.1 (List.of_mem_zip hy).1) (fun h₀ hns hk => ?_) S.co S.gen S.kind
  have I0 : Inv (cxS (CX D.P D.w) D.P D.w D.K D.mg D.base N qual scope f cdv cc A outer s H E') [] (L2.start N (.ref xa :: restv)) H { s with heap := h₀, toks := s.toks + (ps.zip us).length } := inv_startS S hr.hd e0 hl r lcc rfl hns hk
  have hroom : Room k (cxS (CX D.P D.w) D.P D.w D.K D.mg D.base N qual scope f cdv cc A outer s H E').A := ⟨hr.rm.deeper _, hr.gd⟩
  have hs0 : (L2.start N (.ref xa :: restv))[0]? = some (some (.ref xa)) := by
    unfold L2.start
    rw [List.getElem?_append_left (by simp)]
    rfl
  have hp0 : 0 < ps.length := (List.getElem?_eq_some_iff.mp h0).1
  have hi0 : N[0]? = some slf0 := by
    have z : (N.take ps.length)[0]? = some slf0 := by rw [S.pre]; exact h0
    rwa [List.getElem?_take_of_lt hp0] at z
  have hl0 : scope.names.lookup slf0 = some .local := S.par slf0 (List.mem_of_getElem? h0)
  have fnok : ∀ y : Str, Loc scope y → (y != "__class__") = true ∨ scope.names.lookup y = some .local := fun y hy => by
    left
    rw [bne_iff_ne]
    intro z
    subst z
    rcases hy with z | z
    · rw [S.cls] at z; cases z
    · rw [S.cls] at z; cases z
  have xok : XOk (cxS (CX D.P D.w) D.P D.w D.K D.mg D.base N qual scope f cdv cc A outer s H E') D N scope k f qual := ⟨rfl, rfl, S.nd, rfl, rfl, passes_of rfl, fnok, hroom, ⟨rfl, rfl, rfl, (codeV_of lk).symm, rfl⟩⟩
  have finish : ∀ {g' : Gh} {H' : Hp} {s' : Shared}, Inv (cxS (CX D.P D.w) D.P D.w D.K D.mg D.base N qual scope f cdv cc A outer s H E') [] (L2.start N (.ref xa :: restv)) H' s' → GExt [xa] g cs H g' cs1 H' → GRel D.K g' cs1 H' → CellOk D.K g' H' xa d → g'.P xa = none → ¬ xa ∈ g'.io →
      wpAny (model D.P D.w) (A.deeper (envS qual scope s.heap.objs.size f cdv cc)) (execs rest (envS qual scope s.heap.objs.size f cdv cc)) (fun fl s2 => CE outer D.P D.w H s Q (match fl with | .ret v => v | _ => .none) s2) (cxS (CX D.P D.w) D.P D.w D.K D.mg D.base N qual scope f cdv cc A outer s H E').xe s' := by
    intro g' H' s' I2 ex' gr' c' hP' hi'
    have L := lrel_afterI (N := N) ⟨_, hx⟩ ex' gr' c' hP' hi' (ex'.le.reps rr) (by omega)
    have B := (hb _ xok).run ⟨[xa], g, cs, H, fun _ _ => False⟩ (fun cls d _ H => E' cls d H) ⟨takes_of rfl rfl rfl rfl, fun _ _ f c z => z.elim⟩
    have done : ∀ {s' : Sto} {g' : Gh} {σ' : L2.St} {H' : Hp}, (match endSlf s' with
      | .ret d cs' => ∀ g' H', GExt [xa] g cs H g' cs' H' → GRel D.K g' cs' H' → CellOk D.K g' H' xa d → g'.P xa = none → ¬ xa ∈ g'.io → Q .non H'
      | .exc e cs' => ∀ g' H' cls dd, GExt [xa] g cs H g' cs' H' → GRel D.K g' cs' H' → XRep D.K g' cls dd e → E' cls dd H'
      | .stuck => False) → LRel D.K ⟨[xa], g, cs, H, fun _ _ => False⟩ g' s' σ' H' → Q .non H' := fun {s' g' σ' H'} z L => by
      unfold endSlf at z
      split at z
      · rename_i d cs' hh
        split at hh
        · rename_i d' e0
          cases hh
          obtain ⟨a, k1, k2, k3, ⟨k4, _⟩, k5⟩ := L.slf 0 _ e0
          have : a = xa := by simpa using k4
          subst this
          exact z g' H' L.ex L.gr k2 k3 k5
        · cases hh
      · rename_i hh
        split at hh <;> cases hh
      · exact z.elim
    refine wpAny_mono (B.run [] s' (L2.start N (.ref xa :: restv)) H' { nx := fun _ H' => Q .non H', rt := Q } I2 ⟨g', ⟨envIn N.length d ds, cs1⟩, L, ?_⟩) (fun fl s2 hs => ?_) fun e s2 hs => hs
    · cases e : m ⟨envIn N.length d ds, cs1⟩ with
      | nx s' => rw [e] at q; exact fun g' σ' H' l L => done q L
      | rt d s' =>
        rw [e] at q
        intro g' σ' v H' l L rv
        cases rv with
        | non => exact done q L
        | _ => exact q.elim
      | exc x s' => rw [e] at q; exact fun g' σ' H' cls dd l L rv => q g' H' cls dd L.ex L.gr rv
      | bk s' => rw [e] at q; exact q.elim
      | ct s' => rw [e] at q; exact q.elim
      | stuck => rw [e] at q; exact q.elim
    · have fin : ∀ {σ' : L2.St} {H' : Hp} {v : V} {u : Value}, Inv (cxS (CX D.P D.w) D.P D.w D.K D.mg D.base N qual scope f cdv cc A outer s H E') [] σ' H' s2 → L2.RelV v u → Q v H' → CE outer D.P D.w H s Q u s2 :=
        fun {σ' H' v u} J rv q => ⟨v, H', J.os, J.bare, J.base, J.hok, rv, q⟩
      cases fl with
      | ret u =>
        obtain ⟨v, σ', H', J, rv, q⟩ := hs
        exact fin J rv q
      | next =>
        obtain ⟨σ', H', J, q⟩ := hs
        exact fin (v := V.non) (u := Value.none) J rfl q
      | brk =>
        obtain ⟨_, _, _, q⟩ := hs
        exact False.elim q
      | cont =>
        obtain ⟨_, _, _, q⟩ := hs
        exact False.elim q
  refine ks_wpAt_execs_cons ?_
  refine wp_super (X := cxS (CX D.P D.w) D.P D.w D.K D.mg D.base N qual scope f cdv cc A outer s H E') S T rfl I0 hi0 hl0 hs0 hx t1 t2 hline t3 t4 (fun h' t' kk => ?_)
  have I1 := I0.kept (h' := h') (t' := t') kk
  obtain ⟨fd2, ps2, hp2, F2, dvs, dsv, rd, rg, hb2⟩ := ((NE.ini p fi e2).2.2 0 (by omega) (by omega)).ex
  have hdr : fi.dfl.drop (0 + 1 + fi.dfl.length - fi.par) = fi.dfl := by rw [e3, show 0 + 1 + fi.dfl.length - (fi.dfl.length + 1) = 0 by omega]; rfl
  rw [hdr] at hp2 rg
  have hc := F2.run _ _ _ H ⟨[.ref xa], []⟩ ([.ref xa] ++ dsv) (.ref xa :: dvs) (fun _ H' => ∃ g', GExt [xa] g cs H g' cs1 H' ∧ GRel D.K g' cs1 H' ∧ CellOk D.K g' H' xa d ∧ g'.P xa = none ∧ ¬ xa ∈ g'.io) (WE (fun _ _ _ _ => False) (L2.start N (.ref xa :: restv))) (hroom.mono hkk) I1.env0 (hb2 _ [.ref xa] I1.kIn rfl) (show Vals (V.ref xa :: dvs) ([Value.ref xa] ++ dsv) from .cons (show RelV (V.ref xa) (Value.ref xa) from rfl) rd) ⟨by
      rw [List.length_cons, (rg g).length]; omega, xa, dvs, g, cs, .ins c fs, fi.dfl, rfl, gr, ⟨dx, fv, hx, hx2, hx3⟩, hP, hi, rg g, by
      rw [e4]; exact fun g' H' a b c d e => ⟨g', a, b, c, d, e⟩⟩
  refine codeAny_mono hc fun r s' hq => ?_
  cases r with
  | error e => exact passAt LamX.takes0 (L2.start N (.ref xa :: restv)) [] H _ e s' I1 hq
  | ok fl =>
    cases fl with
    | ret u =>
      obtain ⟨v, H', I2, _, g', ex', gr', c', hP', hi'⟩ := I1.after hq
      exact wpAt_of_wpAny (finish I2 ex' gr' c' hP' hi')
    | next => exact False.elim hq
    | brk => exact False.elim hq
    | cont => exact False.elim hq
end Zw

namespace Zw
open PySem L2 PyProof.Rows PySem.Spec ClX

/-! ### from the text to what it does -/
structure Rec where
  cE : Scope → Bool → Expr → M Dat
  cT : Scope → Bool → Expr → M Bool
  cA : Scope → Bool → List Expr → M (List Dat)
  cS : Scope → Stmt → MS
  cB : Scope → List Stmt → MS
def stuckS : MS := fun _ => .stuck
def Rec.bot : Rec := ⟨fun _ _ _ => fail, fun _ _ _ => fail, fun _ _ _ => fail, fun _ _ => stuckS, fun _ _ => stuckS⟩
/-- what a text's compiling is given: the tables, the def's names, whether a display that is returned becomes a cell; the names that the frame holds alone; the table of its lambdas (a cell), the def's path, the lambdas' name -/
structure Cc where
  E : En
  N : List Str
  cell : Bool
  own : List Str
  tab : Option (Nat × (Str × Option Str) × Str)

def isVis (sc : Scope) (x : Str) : Bool := match sc.names.lookup x with
  | some .local => true
  | some .cell => true
  | some .free => true
  | _ => false
def isLoc (sc : Scope) (x : Str) : Bool := match sc.names.lookup x with
  | some .local => true
  | some .cell => true
  | _ => false
def isLocal (sc : Scope) (x : Str) : Bool := match sc.names.lookup x with
  | some .local => true
  | _ => false
def isGl (sc : Scope) (x : Str) : Bool := match sc.names.lookup x with
  | some .globalImplicit => true
  | _ => false
def okName (x : Str) : Bool := !(x == ("__debug__" : Str)) && !(x == ("__classdict__" : Str)) && !(x == ("__name__" : Str))
/-- a name's slot -/
def slotOf (N : List Str) (sc : Scope) (x : Str) : Option Nat := if isVis sc x && okName x then N.idxOf? x else none
/-- built-in types by name -/
def tyNames : List String := ["int", "str", "bool", "list", "tuple", "dict", "ValueError"]
def tyOf (x : Str) : Option String := tyNames.find? fun T => decide (x = (T : Str))
def Cc.nameM (C : Cc) (sc : Scope) (x : Str) : M Dat := match slotOf C.N sc x with
  | some i => rdSlot i
  | none => if isGl sc x && okName x then (match C.E.glo x with
      | some d => pur d
      | none => if C.E.free x then (match tyOf x with
          | some T => pur (.ty T)
          | none => fail) else fail) else fail
/-! operators -/
def Cc.binR (C : Cc) : Operator → Rule
  | .Add => orR rAddI (orR rAddS (orR rCatD (C.E.rBin "add")))
  | .Sub => orR rSubI (C.E.rBin "sub")
  | .Mult => orR rMulI (orR rRepS (C.E.rBin "mul"))
  | .FloorDiv => orR rDivI (C.E.rBin "floordiv")
  | .Mod => orR rModI (C.E.rBin "mod")
  | .Pow => rPowI
  | _ => fun _ => none
def Cc.inpR (C : Cc) : Operator → Rule
  | .Add => orR rAddI (orR rAddS (C.E.rInp "add"))
  | .Sub => orR rSubI (C.E.rInp "sub")
  | .Mult => orR rMulI (C.E.rInp "mul")
  | .FloorDiv => orR rDivI (C.E.rInp "floordiv")
  | .Mod => C.E.rInp "mod"
  | _ => fun _ => none
def Cc.unaR (C : Cc) : UnaryOp → Rule
  | .USub => orR rNegI (C.E.rUna "__neg__")
  | .Invert => C.E.rUna "__invert__"
  | _ => fun _ => none
def Cc.cmpR (C : Cc) : CmpOp → Rule
  | .Eq => orR rEqS (orR rEqN (C.E.rCmp .Eq))
  | .NotEq => orR rNeS (orR rNeN (C.E.rCmp .NotEq))
  | .Lt => orR rLtI (C.E.rCmp .Lt)
  | .LtE => orR rLeI (C.E.rCmp .LtE)
  | .Gt => orR rGtI (C.E.rCmp .Gt)
  | .GtE => orR rGeI (C.E.rCmp .GtE)
  | .Is => rIsN
  | .IsNot => rNotN
  | _ => fun _ => none
def inR : CmpOp → Option Rule
  | .In => some (orR (rInS false) (Zw.p2 (inD false)))
  | .NotIn => some (orR (rInS true) (Zw.p2 (inD true)))
  | _ => none
/-- built-in calls of one value that is looked at -/
def blt1 : List (String × Rule) := [("len", rLen), ("all", rAllC), ("any", rAnyC), ("sum", rSumC)]
def blty1 : List (String × Rule) := [("list", rListC), ("tuple", rTupC)]
/-- built-in calls of values that are held -/
def Cc.bltA (C : Cc) : List (String × Rule) := [("abs", orR rAbsI (C.E.rUna "__abs__")), ("repr", C.E.rRep)]
def Cc.bltyA (C : Cc) : List (String × Rule) := [("int", rIntC), ("bool", C.E.rBool), ("str", orR rStrI C.E.rStrO)]
def bl? (l : List (String × Rule)) (x : Str) : Option Rule := l.findSome? fun p => if x = (p.1 : Str) then some p.2 else none
def noParB : Arguments → Bool
  | ⟨[], [], none, [], [], none, []⟩ => true
  | _ => false
section
variable (C : Cc) (r rl : Rec)
/-- what is looked at -/
def Rec.cP (sc : Scope) (b : Bool) (e : Expr) : M Dat := match e with
  | .Name x _ => (match slotOf C.N sc x with
    | some i => pkSlot i
    | none => bnd (r.cE sc b e) vw)
  | _ => bnd (r.cE sc b e) vw
def Rec.cO (sc : Scope) (b : Bool) (e : Option Expr) : M (Option Int) := match e with
  | none => partM none
  | some e => partM (some (r.cE sc b e))
/-- one value of a built-in's call -/
def f1R (r : Rule) : Rule := fun ds => match ds with
  | [d] => r [d]
  | _ => none
def Rec.cAA (sc : Scope) (b : Bool) (es : List Expr) : M (List Dat) := match es with
  | [] => nilA
  | _ => r.cA sc b es
def Rec.cCall (sc : Scope) (b : Bool) (f : Expr) (es : List Expr) (pos : Pos) : M Dat := if noStar es then (match f with
  | .Name x _ => (match slotOf C.N sc x with
    | some i => (match es with
      | [] => if b then fail else slotCall i (bnd (rdSlot i) fun v => match v with | .cls c => (if (C.E.ini c).isSome = true then bnd (r.cAA sc b es) (C.E.make c) else fail) | _ => fail)
      | _ => bnd (rdSlot i) fun v => match v with | .cls c => (if (C.E.ini c).isSome = true then bnd (r.cAA sc b es) (C.E.make c) else fail) | _ => fail)
    | none => if isGl sc x && okName x then (if C.E.top x && (C.E.fn x).isSome then bnd (r.cAA sc b es) (C.E.call x)
      else if (C.E.ini x).isSome && (C.E.cl x).isSome then bnd (r.cAA sc b es) (C.E.make x)
      else if C.E.free x then (match es with
        | [] => fail
        | [a] => (match bl? blt1 x with
          | some ru => bnd (r.cP C sc b a) fun d => runR ru [d]
          | none => (match bl? blty1 x with
            | some ru => bnd (r.cP C sc b a) fun d => runR ru [d]
            | none => (match bl? C.bltA x with
              | some ru => bnd (r.cAA sc b es) (runR (f1R ru))
              | none => (match bl? C.bltyA x with
                | some ru => bnd (r.cAA sc b es) (runR (f1R ru))
                | none => fail))))
        | _ => if x = ("isinstance" : Str) then bnd (r.cAA sc b es) (runR (orR C.E.rIsi C.E.rIsX)) else fail) else fail) else fail)
  | .Attribute o m apos => if notSuper o && decide (es.length < 30) && (apos.endLine == pos.line) then
      bnd (r.cE sc b o) fun x => gate (orM (C.E.mIns m) (orM (C.E.mCls m) (if m = ("split" : Str) then (fun d => match d with | .str z => some (runR (rSplit z)) | _ => none) else fun _ => none)) x) fun mf => bnd (r.cAA sc b es) mf
    else fail
  | _ => fail) else fail
/-- calls with keywords -/
def Rec.cKw (sc : Scope) (b : Bool) : List Keyword → M (List Dat)
  | [] => nilA
  | ⟨_, e, _⟩ :: kws => consA (r.cE sc b e) (Rec.cKw sc b kws)
def Rec.cCallK (sc : Scope) (b : Bool) (f : Expr) (es : List Expr) (kws : List Keyword) (pos : Pos) : M Dat := match kwNames kws with
  | none => fail
  | some ks => if noStar es then (match f with
    | .Name x _ => if isGl sc x && okName x then (if C.E.top x && (C.E.fn x).isSome then bnd (r.cAA sc b es) fun ds => bnd (r.cKw sc b kws) fun zs => C.E.callK x ds (ks.zip zs)
      else if (C.E.ini x).isSome && (C.E.cl x).isSome then bnd (r.cAA sc b es) fun ds => bnd (r.cKw sc b kws) fun zs => C.E.makeK x ds (ks.zip zs) else fail) else fail
    | .Attribute o m apos => if notSuper o && decide (es.length + kws.length < 29) && (apos.endLine == pos.line) then
        bnd (r.cE sc b o) fun x => gate (C.E.mKw m x) fun q => bnd (r.cAA sc b es) fun ds => bnd (r.cKw sc b kws) fun zs => C.E.callK q.1 (if q.2 = true then x :: ds else ds) (ks.zip zs)
      else fail
    | _ => fail) else fail
/-- f(lambda: ..) -/
def freOf (N : List Str) (lsc : Scope) : List Nat := lsc.names.filterMap fun y => match y.2 with
  | .free => N.idxOf? y.1
  | _ => none
def Rec.cLam (sc : Scope) (b : Bool) (x : Str) (ps : Arguments) (body : Expr) (lsc : Scope) : M Dat := match C.tab with
  | some (n, p, q) => if !b && isGl sc x && okName x && noParB ps && LamX.lamSB sc lsc then lamM C.E x n p q (freOf C.N lsc) (rl.cE lsc true body) else fail
  | none => fail
/-- a target: what it does, the slots it changes -/
def tgM (N : List Str) (sc : Scope) (b : Bool) : Nat → Expr → Option ((Dat → MS) × List Nat)
  | 0, _ => none
  | n + 1, tg => match tg with
    | .Name x _ => if isLoc sc x && (!b || isLocal sc x) then (N.idxOf? x).map fun i => (asgS i, [i]) else none
    | .Tuple es _ _ => (tgs n es).map fun p => (unpG es.length p.1, p.2)
    | _ => none
where tgs : Nat → List Expr → Option ((List Dat → MS) × List Nat)
  | 0, _ => none
  | n + 1, es => match es with
    | [] => some (nilG, [])
    | .Name x _ :: es => if isLoc sc x && (!b || isLocal sc x) then (match N.idxOf? x, tgs n es with
      | some i, some p => some (consG (asgS i) p.1, [i] ++ p.2)
      | _, _ => none) else none
    | _ => none
def notSet : Expr → Bool
  | .Set .. => false
  | _ => true
/-- what is walked -/
def Rec.cI (sc : Scope) (b : Bool) (e : Expr) : M (List Dat) := match e with
  | .Call (.Name x _) es [] _ => if x = ("range" : Str) && isGl sc x && C.E.free x && noStar es && (decide (es.length = 1) || decide (es.length = 2)) then bnd (r.cA sc b es) rangeM else bnd (r.cE sc b e) itemsM
  | _ => bnd (r.cE sc b e) itemsM
/-- the slots of a comprehension's own names -/
def ownOf (N : List Str) (bsc : Scope) : List (Str × Nat) := bsc.names.filterMap fun y => match y.2 with
  | .local => (N.idxOf? y.1).map fun i => (y.1, i)
  | .cell => (N.idxOf? y.1).map fun i => (y.1, i)
  | _ => none
def Rec.cTs (sc : Scope) (b : Bool) (ifs : List Expr) : Option (M Bool) := match ifs with
  | [] => some (pur true)
  | [c] => some (r.cT sc b c)
  | _ => none
def Rec.cLc (sc : Scope) (b : Bool) (elt tg iter : Expr) (ifs : List Expr) (bsc : Scope) : M Dat :=
  if blkC C.N sc bsc (ownOf C.N bsc) && notSet iter then (match tgM C.N bsc true 5 tg, r.cTs bsc true ifs with
    | some p, some t => if p.2 ⊆ (ownOf C.N bsc).map (·.2) then lcM ((ownOf C.N bsc).map (·.2)) (r.cI C sc b iter) p.1 t (r.cE bsc true elt) else fail
    | _, _ => fail) else fail
/-- the pairs of a display -/
def Rec.cPs (sc : Scope) (b : Bool) : List (Option Expr) → List Expr → Option (List (M Dat × M Dat))
  | [], [] => some []
  | some k :: ks, v :: vs => (Rec.cPs sc b ks vs).map fun ms => (r.cE sc b k, r.cE sc b v) :: ms
  | _, _ => none
def isRepL : Expr → Operator → Expr → Option (List Expr × Int)
  | .List es _, .Mult, .Constant (.int k) _ _ => some (es, k)
  | _, _, _ => none
def chOk (op op' : CmpOp) (c d : Expr) : Bool := (inR op).isNone && (inR op').isNone && !lastMarks [op, op'] [c, d]
def Rec.stepE (sc : Scope) (b : Bool) (e : Expr) : M Dat := match e with
  | .Constant c _ _ => (match c with
    | .int i => pur (.int i)
    | .bool x => pur (.bl x)
    | .none => pur .non
    | .str x => pur (.str x)
    | _ => fail)
  | .Name x _ => C.nameM sc x
  | .BinOp a op c _ => (match isRepL a op c with
    | some p => if noStar p.1 then repLM (r.cA sc b p.1) p.2 else fail
    | none => bnd (r.cE sc b a) fun x => bnd (r.cE sc b c) fun y => runR (C.binR op) [x, y])
  | .UnaryOp op a _ => (match op with
    | .Not => bnd (r.cE sc b a) fun x => bnd (C.E.tru x) fun c => pur (.bl (!c))
    | _ => bnd (r.cE sc b a) fun x => runR (C.unaR op) [x])
  | .Compare a [op] [c] _ => (match inR op with
    | some ru => if notSet c then bnd (r.cE sc b a) fun x => bnd (r.cP C sc b c) fun y => runR ru [x, y] else fail
    | none => bnd (r.cE sc b a) fun x => bnd (r.cE sc b c) fun y => runR (C.cmpR op) [x, y])
  | .Compare a [op, op'] [c, d] _ => if chOk op op' c d then chainM (fun x y => runR (C.cmpR op) [x, y]) (fun x y => runR (C.cmpR op') [x, y]) (r.cE sc b a) (r.cE sc b c) (r.cE sc b d) else fail
  | .Dict ks vs _ => (match ks with
    | [] => (match vs with
      | [] => pur (.dic [])
      | _ => fail)
    | _ => if ks.length ≤ 15 then (match r.cPs sc b ks vs with
      | some ms => dicM ms
      | none => fail) else fail)
  | .BoolOp op es pos => (match op, es with
    | _, [a] => r.cE sc b a
    | .And, a :: c :: rest => andV (r.cE sc b a) (r.cE sc b (.BoolOp .And (c :: rest) pos))
    | .Or, a :: c :: rest => orV (r.cE sc b a) (r.cE sc b (.BoolOp .Or (c :: rest) pos))
    | _, _ => fail)
  | .IfExp c x y _ => ifM (r.cT sc b c) (r.cE sc b x) (r.cE sc b y)
  | .Tuple es _ _ => if noStar es then tupM (r.cA sc b es) else fail
  | .List es _ => if noStar es then lstM (r.cA sc b es) else fail
  | .Subscript a (.Slice lo hi none _) _ => bnd (r.cE sc b a) fun x => bnd (r.cO sc b lo) fun l => bnd (r.cO sc b hi) fun h => sliceM x l h
  | .Subscript (.Name x p) c _ => if isSlice c then fail else (match slotOf C.N sc x with
    | some i => bnd (pkSlot i) fun _ => bnd (r.cE sc b c) fun y => bnd (pkSlot i) fun d => runR rIxD [d, y]
    | none => bnd (r.cE sc b (.Name x p)) fun x => bnd (r.cE sc b c) fun y => bnd (vw x) fun d => runR rIxD [d, y])
  | .Subscript a c _ => if isSlice c then fail else bnd (r.cE sc b a) fun x => bnd (r.cE sc b c) fun y => bnd (vw x) fun d => runR rIxD [d, y]
  | .Attribute o f _ => if notSuper o then bnd (r.cE sc b o) fun x => C.E.getX x f else fail
  | .Call (.Name x _) [.Lambda ps body lsc _] [] _ => Rec.cLam C rl sc b x ps body lsc
  | .Call f es [] pos => r.cCall C sc b f es pos
  | .Call f es (kw :: kws) pos => r.cCallK C sc b f es (kw :: kws) pos
  | .ListComp elt [⟨tg, iter, ifs, 0⟩] bsc _ => r.cLc C sc b elt tg iter ifs bsc
  | .FormattedValue v conv none _ => if conv = -1 ∨ conv = 115 then bnd (r.cE sc b v) (C.E.fmt conv) else fail
  | .JoinedStr [v] _ => r.cE sc b v
  | .JoinedStr (v1 :: v2 :: rest) _ => joinM ((v1 :: v2 :: rest).map (r.cE sc b)) Str.empty
  | _ => fail
def Rec.cAnd (sc : Scope) (b : Bool) : List Expr → M Bool
  | [] => fail
  | [a] => r.cT sc b a
  | a :: c :: rest => andT (r.cT sc b a) (Rec.cAnd sc b (c :: rest))
def Rec.cOr (sc : Scope) (b : Bool) : List Expr → M Bool
  | [] => fail
  | [a] => r.cT sc b a
  | a :: c :: rest => orT (r.cT sc b a) (Rec.cOr sc b (c :: rest))
def Rec.stepT (sc : Scope) (b : Bool) (e : Expr) : M Bool := match e with
  | .UnaryOp .Not a _ => notT (r.cT sc b a)
  | .BoolOp op es _ => (match op with
    | .And => r.cAnd sc b es
    | .Or => r.cOr sc b es)
  | .Compare a [op] [c] _ => (match inR op with
    | some ru => if notSet c then bnd (r.cE sc b a) fun x => bnd (r.cP C sc b c) fun y => bnd (runR ru [x, y]) C.E.tru else fail
    | none => bnd (r.cE sc b a) fun x => bnd (r.cE sc b c) fun y => bnd (runR (C.cmpR op) [x, y]) C.E.tru)
  | .Compare a [op, op'] [c, d] _ => if chOk op op' c d then chainT (fun x y => runR (C.cmpR op) [x, y]) (fun x y => runR (C.cmpR op') [x, y]) C.E.tru (r.cE sc b a) (r.cE sc b c) (r.cE sc b d) else fail
  | .Name .. => bnd (r.cE sc b e) C.E.tru
  | .Call .. => bnd (r.cE sc b e) C.E.tru
  | .Attribute .. => bnd (r.cE sc b e) C.E.tru
  | .Subscript .. => bnd (r.cE sc b e) C.E.tru
  | .BinOp .. => bnd (r.cE sc b e) C.E.tru
  | _ => fail
def Rec.stepA (sc : Scope) (b : Bool) (es : List Expr) : M (List Dat) := match es with
  | [] => nilA
  | e :: es => if noStar (e :: es) then consA (r.cE sc b e) (r.cA sc b es) else fail
def isLc : Expr → Bool
  | .ListComp .. => true
  | .SetComp .. => true
  | .DictComp .. => true
  | _ => false
def isTup : Expr → Bool
  | .Tuple .. => true
  | _ => false
/-- a, b = .. with swapped stores -/
def swapOk (sc : Scope) (x y : Str) (px py : Pos) (a c : Expr) : Bool := isLocal sc x && isLocal sc y && (px.line == py.line) && !(foldedForSure 8 a && foldedForSure 8 c) && !(constantsAlone 8 a && constantsAlone 8 c)
def swap3Ok (sc : Scope) (x y z : Str) (px py pz : Pos) (a b c : Expr) : Bool := isLocal sc x && isLocal sc y && isLocal sc z && (px.line == py.line) && (px.line == pz.line) && !(x == y) && !(x == z) && !(y == z) && !(foldedForSure 8 a && (foldedForSure 8 b && foldedForSure 8 c)) && !(constantsAlone 8 a && (constantsAlone 8 b && constantsAlone 8 c))
/-- the stores are not swapped -/
def plainName (sc : Scope) (line : Nat) : Expr → Option Str
  | .Name id pos => if sc.names.lookup id == some .local && pos.line == line then some id else none
  | _ => none
def plainNames (sc : Scope) (ts : List Expr) : List Str := ts.filterMap (plainName sc ((ts.head?.map (·.pos.line)).getD 0))
def noSwap (sc : Scope) (ts vs : List Expr) : Bool := !(ts.length == 2 || ts.length == 3) || vs.length != ts.length || ((plainNames sc ts).length != ts.length || (plainNames sc ts).eraseDups.length != (plainNames sc ts).length) || vs.all (foldedForSure 8)
def noSwapE (sc : Scope) (tg e : Expr) : Bool := match tg, e with
  | .Tuple ts _ _, .Tuple vs _ _ => noSwap sc ts vs
  | _, .Tuple _ _ _ => false
  | _, _ => true
def Rec.cAsgT (sc : Scope) (tg e : Expr) : MS := if !noSwapE sc tg e then stuckS else (match tgM C.N sc false 5 tg with
    | some p => bndS (r.cE sc false e) p.1
    | none => stuckS)
def Rec.cAsg (sc : Scope) (tg e : Expr) : MS := match tg with
  | .Name x px => if isLoc sc x then (match C.N.idxOf? x with
      | some i => (match e with
        | .ListComp elt [⟨tg', iter, ifs, 0⟩] bsc p => if isLocal sc x && (px.line == p.line) && !(bsc.names.any fun (n, k) => n == x && (k == .local || k == .cell)) then bndS (r.cLc C sc false elt tg' iter ifs bsc) (asgS i) else stuckS
        | .List es _ => if C.own.contains x && noStar es then bndS (r.cA sc false es) (ownL i) else bndS (r.cE sc false e) (asgS i)
        | .Dict [] [] _ => if C.own.contains x then own0 i else bndS (r.cE sc false e) (asgS i)
        | _ => if isLc e then stuckS else bndS (r.cE sc false e) (asgS i))
      | none => stuckS) else stuckS
  | .Tuple [.Name x px, .Name y py] kt pt => (match e with
    | .Tuple [a, c] k2 pt2 => if swapOk sc x y px py a c && noStar [a, c] && !(x == y) then (match C.N.idxOf? x, C.N.idxOf? y with
      | some i, some j => bndS (r.cA sc false [a, c]) (par2 i j)
      | _, _ => stuckS) else r.cAsgT C sc tg e
    | _ => r.cAsgT C sc tg e)
  | .Tuple [.Name x px, .Name y py, .Name z pz] kt pt => (match e with
    | .Tuple [a, c, d] k2 pt2 => if swap3Ok sc x y z px py pz a c d && noStar [a, c, d] then (match C.N.idxOf? x, C.N.idxOf? y, C.N.idxOf? z with
      | some i, some j, some l => bndS (r.cA sc false [a, c, d]) (par3 i j l)
      | _, _, _ => stuckS) else r.cAsgT C sc tg e
    | _ => r.cAsgT C sc tg e)
  | .Tuple .. => r.cAsgT C sc tg e
  | .Subscript (.Name x _) ix _ => if isSlice ix then stuckS else (match slotOf C.N sc x with
    | some i => bndS (r.cE sc false e) fun v => bndS (pkSlot i) fun _ => bndS (r.cE sc false ix) fun y => setIx i v y
    | none => stuckS)
  | .Attribute (.Name x _) f _ => (match slotOf C.N sc x with
    | some i => bndS (r.cE sc false e) fun d => C.E.fldS i f d
    | none => stuckS)
  | _ => stuckS
/-- what an except clause may do -/
def suS (N : List Str) (sc : Scope) : Stmt → Option MS
  | .Assign [.Name x _] (.Name y _) _ => if isLoc sc x then (match N.idxOf? x, slotOf N sc y with
    | some i, some j => some (bndS (rdSlot j) (asgS i))
    | _, _ => none) else none
  | .Return none _ => some (retS .non)
  | .Return (some (.Constant .none _ _)) _ => some (bndS (pur .non) retS)
  | .Return (some (.Constant (.bool x) _ _)) _ => some (bndS (pur (.bl x)) retS)
  | .Return (some (.Constant (.str x) _ _)) _ => some (bndS (pur (.str x)) retS)
  | .Pass _ => some nextS
  | .Continue _ => some fun s => .ct s
  | _ => none
def suB (N : List Str) (sc : Scope) : List Stmt → Option MS
  | [] => some nextS
  | st :: rest => match suS N sc st, suB N sc rest with
    | some m, some f => some (seqS m f)
    | _, _ => none
def En.catches (E : En) (x c : Str) : Option Bool := match E.ex c, E.ex x with
  | some xi, some _ => some (decide (x ∈ xi.sup))
  | _, _ => none
/-- the slot of an except clause's name -/
def asSlot (N : List Str) (sc : Scope) : Option Str → Option (Option Nat)
  | none => some none
  | some n => if isLocal sc n then (N.idxOf? n).map some else none
def Rec.cTry (sc : Scope) (body : List Stmt) (x : Str) (on : Option Str) (su : List Stmt) : MS := if isGl sc x && okName x && (C.E.ex x).isSome && !su.isEmpty then (match asSlot C.N sc on, suB C.N sc su with
    | some i, some ms => tryS i (C.E.catches x) (r.cB sc body) ms
    | _, _ => stuckS) else stuckS
def Rec.cRaise (sc : Scope) (c : Str) (es : List Expr) : MS := if isGl sc c && okName c && noStar es then (match C.E.ex c with
    | some xi => (match es with
      | [] => if xi.adr.isNone then C.E.raiseS c [] else stuckS
      | _ => if xi.adr.isSome then bndS (r.cA sc false es) (C.E.raiseS c) else stuckS)
    | none => stuckS) else stuckS
def Rec.cExp (sc : Scope) (e : Expr) : MS := match e with
  | .Call (.Attribute (.Name x _) m apos) [a] [] pos => if m = ("append" : Str) ∧ C.own.contains x = true then (match slotOf C.N sc x with
      | some i => if noStar [a] && (apos.endLine == pos.line) then bndS (appM i (r.cE sc false a)) fun _ => nextS else stuckS
      | none => stuckS) else bndS (r.cE sc false e) fun _ => nextS
  | _ => if isLc e then stuckS else bndS (r.cE sc false e) fun _ => nextS
def Rec.stepS (sc : Scope) (st : Stmt) : MS := match st with
  | .Pass _ => nextS
  | .Break _ => fun s => .bk s
  | .Continue _ => fun s => .ct s
  | .Return none _ => retS .non
  | .Return (some e) _ => (match e with
    | .List es _ => if C.cell && noStar es then bndS (cellM (r.cA sc false es)) retS else bndS (r.cE sc false e) retS
    | _ => bndS (r.cE sc false e) retS)
  | .Expr (.Constant (.str _) _ _) _ => nextS
  | .Expr e _ => r.cExp C sc e
  | .Raise (some (.Call (.Name c _) es [] _)) none _ => r.cRaise C sc c es
  | .Try body [.ExceptHandler (some (.Name x _)) on su _] [] [] _ => r.cTry C sc body x on su
  | .AugAssign (.Name x _) op e _ => if isLoc sc x then (match C.N.idxOf? x with
    | some i => augS i (r.cE sc false e) fun x y => runR (C.inpR op) [x, y]
    | none => stuckS) else stuckS
  | .If c a b _ => ifS (r.cT sc false c) (r.cB sc a) (r.cB sc b)
  | .While c body [] _ => stuckS
  | .For tg iter body [] _ => if notSet iter then (match tgM C.N sc false 5 tg with
    | some p => bndS (r.cI C sc false iter) fun ds => forM p.1 (r.cB sc body) ds
    | none => stuckS) else stuckS
  | .Assign [tg] e _ => r.cAsg C sc tg e
  | _ => stuckS
def Rec.stepB (sc : Scope) (st : List Stmt) : MS := match st with
  | [] => nextS
  | st :: rest => seqS (r.cS sc st) (r.cB sc rest)
end
open Classical in
noncomputable def Rec.stepS' (C : Cc) (r : Rec) (sc : Scope) (st : Stmt) : MS := match st with
  | .While c body [] _ => whileM (r.cT sc false c) (r.cB sc body)
  | _ => r.stepS C sc st
noncomputable def Rec.step (C : Cc) (r rl : Rec) : Rec := ⟨r.stepE C rl, r.stepT C, r.stepA, r.stepS' C, r.stepB⟩
/-- without lambdas -/
noncomputable def comp0 (C : Cc) : Nat → Rec
  | 0 => Rec.bot
  | n + 1 => (comp0 C n).step C Rec.bot
/-- EL: the tables for the bodies of lambdas -/
noncomputable def comp (EL : Option En) (C : Cc) : Nat → Rec
  | 0 => Rec.bot
  | n + 1 => (comp EL C n).step C (match EL with
    | some E' => comp0 ⟨E', C.N, false, [], none⟩ n
    | none => Rec.bot)
end Zw

namespace Zw
open PySem L2 PyProof.Rows PySem.Spec ClX

/-! ### what the compiled text does is what the text does -/
/-- scopes that name alike (a block's free names may be the frame's cells) -/
structure ScR (sc sc' : Scope) : Prop where
  loc : ∀ x, sc.names.lookup x = some .local → sc'.names.lookup x = some .local
  cel : ∀ x, sc.names.lookup x = some .cell → sc'.names.lookup x = some .cell
  fre : ∀ x, sc.names.lookup x = some .free → sc'.names.lookup x = some .cell ∨ sc'.names.lookup x = some .free
  glo : ∀ x, sc.names.lookup x = some .globalImplicit → sc'.names.lookup x = some .globalImplicit
theorem ScR.refl (sc : Scope) : ScR sc sc := ⟨fun _ h => h, fun _ h => h, fun _ h => .inr h, fun _ h => h⟩
theorem relab_lookup {env : Env} : ∀ {names : List (Str × NameKind)} {x : Str} {k : NameKind}, names.lookup x = some k →
    (names.map fun (n, k) => if (k == NameKind.free && env.scope.kind == .function && env.kindOf n == some .cell) then (n, NameKind.cell) else (n, k)).lookup x = some k ∨ (k = .free ∧ (names.map fun (n, k) => if (k == NameKind.free && env.scope.kind == .function && env.kindOf n == some .cell) then (n, NameKind.cell) else (n, k)).lookup x = some .cell)
  | [], _, _, h => by simp at h
  | (n, k') :: r, x, k, h => by
    have ih := @relab_lookup env r x k
    cases hx : x == n with
    | true =>
      simp only [List.lookup_cons, hx] at h
      have h := Option.some.inj h
      subst h
      by_cases hc : (k' == NameKind.free && env.scope.kind == .function && env.kindOf n == some .cell) = true
      · right
        refine ⟨?_, ?_⟩
        · simp only [Bool.and_eq_true, beq_iff_eq] at hc
          exact hc.1.1
        · simp only [List.map_cons]
          rw [if_pos hc]; simp only [List.lookup_cons, hx]
      · left
        simp only [List.map_cons]
        rw [if_neg hc]; simp only [List.lookup_cons, hx]
    | false =>
      simp only [List.lookup_cons, hx] at h
      by_cases hc : (k' == NameKind.free && env.scope.kind == .function && env.kindOf n == some .cell) = true
      · simp only [List.map_cons]
        rw [if_pos hc]; simp only [List.lookup_cons, hx]; exact ih h
      · simp only [List.map_cons]
        rw [if_neg hc]; simp only [List.lookup_cons, hx]; exact ih h
theorem ScR.relab {sc : Scope} {env : Env} : ScR sc (relabel sc env) where
  loc := fun x h => by
    rcases relab_lookup (env := env) h with q | ⟨q, _⟩
    · exact q
    · cases q
  cel := fun x h => by
    rcases relab_lookup (env := env) h with q | ⟨q, _⟩
    · exact q
    · cases q
  fre := fun x h => by
    rcases relab_lookup (env := env) h with q | ⟨_, q⟩
    · exact .inr q
    · exact .inl q
  glo := fun x h => by
    rcases relab_lookup (env := env) h with q | ⟨q, _⟩
    · exact q
    · cases q
/-- where an expression runs -/
structure XG (D : Md) (X : Cx) (C : Cc) (k : Nat) (sc : Scope) (b : Bool) : Prop where
  ok : EnOk (md X) k C.E
  nm : X.N = C.N
  nd : X.N.Nodup
  sce : b = false → X.env.scope = sc
  sc : ScR sc X.env.scope
  calm : X.calm = true
  room : Room (k + 2) X.A
  fn : b = false → ∀ x, Loc X.env.scope x → X.fn x = true ∨ X.env.scope.names.lookup x = some .local
  md : Zw.md X = D
  stk : b = false → X.stack = X.env :: X.outer
  lam : b = false → ∀ n p q, C.tab = some (n, p, q) → X.env.code = .ref (codeP p X.K) ∧ X.env.qual ++ "<lambda>" = q ∧ LamX.TabB X.base X.mg (codeP p X.K) (tabP p X.K)
/-- the bodies of lambdas -/
def RlOk (D : Md) (C : Cc) (k : Nat) (rl : Rec) : Prop := C.tab.isSome = true → ∃ kl, kl + 4 ≤ k ∧ ∀ (X : Cx) (lsc : Scope) (e : Expr), Zw.md X = D → X.N = C.N → X.N.Nodup → X.env.scope = lsc → X.calm = true → Room (kl + 2) X.A → GE X e (rl.cE lsc true e)
structure RecOk (D : Md) (C : Cc) (k : Nat) (r : Rec) : Prop where
  cE : ∀ X sc b e, XG D X C k sc b → GE X e (r.cE sc b e)
  cT : ∀ X sc b e, XG D X C k sc b → GT X e (r.cT sc b e)
  cA : ∀ X sc b es, XG D X C k sc b → GA X es (r.cA sc b es)
section
variable {D : Md} {X : Cx} {C : Cc} {k : Nat} {sc : Scope} {b : Bool} {r rl : Rec}
theorem ge_fail {e : Expr} : GE X e fail := GE.of fun t W tk pins sh σ H g s Q I L q => q.elim
theorem gt_fail {e : Expr} : GT X e fail := GT.of fun t W tk pins sh σ H g s Q I L q => q.elim
theorem ga_fail {e : List Expr} : GA X e fail := ⟨fun t W tk => ⟨fun p pins sh σ H Q I ⟨g, s, L, q⟩ => q.elim⟩⟩
theorem gs_stuck {e : Stmt} : GS X e stuckS := ⟨fun t W tk => ⟨fun pins sh σ H D I ⟨g, s, L, q⟩ => q.elim⟩⟩
theorem gss_stuck {e : List Stmt} : GSs X e stuckS := ⟨fun t W tk => ⟨fun pins sh σ H D I ⟨g, s, L, q⟩ => q.elim⟩⟩
theorem idx_at {α : Type} [BEq α] [LawfulBEq α] {l : List α} {x : α} {i : Nat} (h : l.idxOf? x = some i) : l[i]? = some x := by
  obtain ⟨h1, h2, _⟩ := List.idxOf?_eq_some_iff.mp h
  rw [List.getElem?_eq_getElem h1, h2]
theorem okName_ok {x : Str} (h : okName x = true) : (x == ("__debug__" : Str)) = false ∧ (x == ("__classdict__" : Str)) = false ∧ x ≠ ("__name__" : Str) := by
  unfold okName at h
  simp only [Bool.and_eq_true, Bool.not_eq_true'] at h
  exact ⟨h.1.1, h.1.2, fun z => by rw [z] at h; exact absurd h.2 (by decide)⟩
theorem isVis_ok {x : Str} (h : isVis sc x = true) : Vis sc x := by
  unfold isVis at h
  split at h
  · exact .inl (by assumption)
  · exact .inr (.inl (by assumption))
  · exact .inr (.inr (by assumption))
  · cases h
theorem isLoc_ok {x : Str} (h : isLoc sc x = true) : Loc sc x := by
  unfold isLoc at h
  split at h
  · exact .inl (by assumption)
  · exact .inr (by assumption)
  · cases h
theorem isLocal_ok {x : Str} (h : isLocal sc x = true) : sc.names.lookup x = some .local := by
  unfold isLocal at h
  split at h
  · assumption
  · cases h
theorem isGl_ok {x : Str} (h : isGl sc x = true) : sc.names.lookup x = some .globalImplicit := by
  unfold isGl at h
  split at h
  · assumption
  · cases h
theorem ScR.vis {sc' : Scope} (s : ScR sc sc') {x : Str} (h : Vis sc x) : Vis sc' x := by
  rcases h with h | h | h
  · exact .inl (s.loc x h)
  · exact .inr (.inl (s.cel x h))
  · exact .inr (s.fre x h)
theorem ScR.locv {sc' : Scope} (s : ScR sc sc') {x : Str} (h : Loc sc x) : Loc sc' x := by
  rcases h with h | h
  · exact .inl (s.loc x h)
  · exact .inr (s.cel x h)
theorem slot_ok (g : XG D X C k sc b) {x : Str} {i : Nat} (h : slotOf C.N sc x = some i) : X.N[i]? = some x ∧ Vis X.env.scope x ∧ (x == ("__debug__" : Str)) = false ∧ (x == ("__classdict__" : Str)) = false := by
  unfold slotOf at h
  by_cases z : (isVis sc x && okName x) = true
  · rw [if_pos z] at h
    obtain ⟨z1, z2⟩ := Bool.and_eq_true_iff.mp z
    obtain ⟨q1, q2, _⟩ := okName_ok z2
    exact ⟨by rw [g.nm]; exact idx_at h, g.sc.vis (isVis_ok z1), q1, q2⟩
  · rw [if_neg z] at h; cases h
theorem gl_ok (g : XG D X C k sc b) {x : Str} (h : (isGl sc x && okName x) = true) : Gl X x ∧ (x == ("__debug__" : Str)) = false ∧ x ≠ ("__name__" : Str) := by
  obtain ⟨z1, z2⟩ := Bool.and_eq_true_iff.mp h
  obtain ⟨q1, _, q3⟩ := okName_ok z2
  exact ⟨g.sc.glo x (isGl_ok z1), q1, q3⟩
theorem boot_ty : ∀ T ∈ tyNames, bootBuiltins (T : Str) = some (.type T) := by decide +kernel
theorem tyOf_ok {x : Str} {T : String} (h : tyOf x = some T) : bootBuiltins x = some (.type T) := by
  unfold tyOf at h
  have h1 := List.find?_some h
  have h2 := List.mem_of_find?_eq_some h
  rw [of_decide_eq_true h1]
  exact boot_ty T h2
theorem ok_nameM (g : XG D X C k sc b) {x : Str} {pos : Pos} : GE X (.Name x pos) (C.nameM sc x) := by
  unfold Cc.nameM
  cases e : slotOf C.N sc x with
  | some i =>
    obtain ⟨h1, h2, h3, h4⟩ := slot_ok g e
    exact ge_var h1 h2 h3 h4
  | none =>
    dsimp only
    by_cases z : (isGl sc x && okName x) = true
    · rw [if_pos z]
      obtain ⟨q1, q2, q3⟩ := gl_ok g z
      cases e2 : C.E.glo x with
      | some d =>
        obtain ⟨v, u, h1, h2, h3⟩ := g.ok.glo x d e2
        exact ge_glob q1 h1 h2 h3 q2
      | none =>
        dsimp only
        by_cases z2 : C.E.free x = true
        · rw [if_pos z2]
          cases e3 : tyOf x with
          | some T => exact ge_bltn q1 (g.ok.free x z2) (tyOf_ok e3) q3 q2
          | none => exact ge_fail
        · rw [if_neg z2]; exact ge_fail
    · rw [if_neg z]; exact ge_fail
/-! operators -/
theorem ok_binR (g : XG D X C k sc b) (op : Operator) : ROk X (f2 (binaryOp op)) (C.binR op) := by
  have N := g.ok
  have hr : Room k X.A := g.room.mono (by omega)
  cases op with
  | Add => exact ok_addI.or (ok_addS.or (ok_catD.ok.or (ok_rBin N hr (op := .Add) rfl)))
  | Sub => exact ok_subI.or (ok_rBin N hr (op := .Sub) rfl)
  | Mult => exact ok_mulI.or (ok_repS.or (ok_rBin N hr (op := .Mult) rfl))
  | FloorDiv => exact ok_divI.or (ok_rBin N hr (op := .FloorDiv) rfl)
  | Mod => exact ok_modI.or (ok_rBin N hr (op := .Mod) rfl)
  | Pow => exact ok_powI
  | _ => exact fun t W tk pins sh σ H g s xs us ds m Q e => nomatch e
theorem ok_inpR (g : XG D X C k sc b) (op : Operator) : ROk X (f2 (inplaceOp op)) (C.inpR op) := by
  have N := g.ok
  have hr : Room k X.A := g.room.mono (by omega)
  cases op with
  | Add => exact ok_iaddI.or (ok_iaddS.or (ok_rInp N hr (op := .Add) rfl))
  | Sub => exact ok_isubI.or (ok_rInp N hr (op := .Sub) rfl)
  | Mult => exact ok_imulI.or (ok_rInp N hr (op := .Mult) rfl)
  | FloorDiv => exact ok_idivI.or (ok_rInp N hr (op := .FloorDiv) rfl)
  | Mod => exact ok_rInp N hr (op := .Mod) rfl
  | _ => exact fun t W tk pins sh σ H g s xs us ds m Q e => nomatch e
theorem ok_unaR (g : XG D X C k sc b) (op : UnaryOp) : ROk X (f1 (unaryOp op)) (C.unaR op) := by
  have N := g.ok
  have hr : Room k X.A := g.room.mono (by omega)
  cases op with
  | USub => exact ok_negI.or (ok_negO N hr)
  | Invert => exact ok_invO N hr
  | _ => exact fun t W tk pins sh σ H g s xs us ds m Q e => nomatch e
theorem ok_cmpR (g : XG D X C k sc b) (op : CmpOp) : ROk X (f2 (compareOp op)) (C.cmpR op) := by
  have N := g.ok
  have hr : Room (k + 1) X.A := g.room.mono (by omega)
  cases op with
  | Eq => exact ok_eqS.or ((ok_eqN hr).or (ok_rCmp N hr fun a b => rfl))
  | NotEq => exact ok_neS.or ((ok_neN hr).or (ok_rCmp N hr fun a b => rfl))
  | Lt => exact ok_ltI.or (ok_rCmp N hr fun a b => rfl)
  | LtE => exact ok_leI.or (ok_rCmp N hr fun a b => rfl)
  | Gt => exact ok_gtI.or (ok_rCmp N hr fun a b => rfl)
  | GtE => exact ok_geI.or (ok_rCmp N hr fun a b => rfl)
  | Is => exact ok_isN
  | IsNot => exact ok_notN
  | _ => exact fun t W tk pins sh σ H g s xs us ds m Q e => nomatch e
end
end Zw

namespace Zw
open PySem L2 PyProof.Rows PySem.Spec ClX
section
variable {D : Md} {X : Cx} {C : Cc} {k : Nat} {sc : Scope} {b : Bool} {r rl : Rec}
theorem ok_inR (g : XG D X C k sc b) {op : CmpOp} {ru : Rule} (h : inR op = some ru) : ROkT X (f2 (compareOp op)) ru := by
  cases op with
  | In => cases h; exact ok_inS.or (in_rule op_in_seq)
  | NotIn => cases h; exact ok_notInS.or (in_rule op_notIn_seq)
  | _ => cases h
theorem ok_cP (R : RecOk D C k r) (g : XG D X C k sc b) (e : Expr) : GP X e (r.cP C sc b e) := by
  unfold Rec.cP
  split
  · split
    · rename_i i h
      obtain ⟨h1, h2, h3, h4⟩ := slot_ok g h
      exact gp_name h1 h2 h3 h4
    · exact gp_of (R.cE X sc b _ g)
  · exact gp_of (R.cE X sc b _ g)
theorem ok_cO (R : RecOk D C k r) (g : XG D X C k sc b) (e : Option Expr) : GO X e (r.cO sc b e) := by
  unfold Rec.cO
  split
  · exact go_none
  · exact go_some (R.cE X sc b _ g)
theorem ok_cAA (R : RecOk D C k r) (g : XG D X C k sc b) (es : List Expr) : GA X es (r.cAA sc b es) := by
  unfold Rec.cAA
  split
  · exact ga_nil
  · exact R.cA X sc b _ g
theorem cAA_nil {es : List Expr} (h : es = []) : r.cAA sc b es = nilA := by subst h; rfl
theorem bl_ok {l : List (String × Rule)} {x : Str} {ru : Rule} (h : bl? l x = some ru) : ∃ p ∈ l, x = (p.1 : Str) ∧ ru = p.2 := by
  unfold bl? at h
  obtain ⟨p, h1, h2⟩ := List.exists_of_findSome?_eq_some h
  by_cases z : x = (p.1 : Str)
  · rw [if_pos z] at h2; cases h2
    exact ⟨p, h1, z, rfl⟩
  · rw [if_neg z] at h2; cases h2
theorem ROk.f1R {fv : Value} {ru : Rule} (h : ROk X (f1 fun u => call fv [u]) ru) : ROk X (fun us => call fv us) (Zw.f1R ru) := fun t W tk pins sh σ H g s xs us ds m Q e I rv L rp q => by
  unfold Zw.f1R at e
  split at e
  · cases rp with
    | cons r1 r2 =>
      cases r2
      cases rv with
      | cons v1 v2 =>
        cases v2
        exact h t W tk pins sh σ H g s _ _ _ m Q e I (.cons v1 .nil) L (.cons r1 .nil) q
  · cases e
theorem boot_blt1 : ∀ p ∈ blt1, bootBuiltins (p.1 : Str) = some (.builtin p.1) := by
  simp only [blt1, List.forall_mem_cons, List.not_mem_nil, false_implies, implies_true, and_true]
  decide +kernel
theorem boot_blty1 : ∀ p ∈ blty1, bootBuiltins (p.1 : Str) = some (.type p.1) := by
  simp only [blty1, List.forall_mem_cons, List.not_mem_nil, false_implies, implies_true, and_true]
  decide +kernel
theorem boot_bltA : ∀ p ∈ C.bltA, bootBuiltins (p.1 : Str) = some (.builtin p.1) := by
  simp only [Cc.bltA, List.forall_mem_cons, List.not_mem_nil, false_implies, implies_true, and_true]
  decide +kernel
theorem boot_bltyA : ∀ p ∈ C.bltyA, bootBuiltins (p.1 : Str) = some (.type p.1) := by
  simp only [Cc.bltyA, List.forall_mem_cons, List.not_mem_nil, false_implies, implies_true, and_true]
  decide +kernel
theorem ok_blt1 (g : XG D X C k sc b) : ∀ p ∈ blt1, ROkT X (f1 fun u => call (.builtin p.1) [u]) p.2 := by
  simp only [blt1, List.forall_mem_cons, List.not_mem_nil, false_implies, implies_true, and_true]
  exact ⟨ok_len, ok_all g.calm, ok_any g.calm, ok_sum g.calm⟩
theorem ok_blty1 (g : XG D X C k sc b) : ∀ p ∈ blty1, ROkT X (f1 fun u => call (.type p.1) [u]) p.2 := by
  simp only [blty1, List.forall_mem_cons, List.not_mem_nil, false_implies, implies_true, and_true]
  exact ⟨ok_list, ok_tuple⟩
theorem ok_bltA (g : XG D X C k sc b) : ∀ p ∈ C.bltA, ROk X (f1 fun u => call (.builtin p.1) [u]) p.2 := by
  simp only [Cc.bltA, List.forall_mem_cons, List.not_mem_nil, false_implies, implies_true, and_true]
  exact ⟨ok_absI.or (ok_absO g.ok (g.room.mono (by omega))), (ok_repr g.ok.ty g.room).or (ok_reprO g.ok (g.room.mono (by omega)))⟩
theorem ok_bltyA (g : XG D X C k sc b) : ∀ p ∈ C.bltyA, ROk X (f1 fun u => call (.type p.1) [u]) p.2 := by
  simp only [Cc.bltyA, List.forall_mem_cons, List.not_mem_nil, false_implies, implies_true, and_true]
  exact ⟨ok_int, ok_bool g.ok g.room, ok_strI.or (ok_strO g.ok g.room)⟩
theorem boot_isi : bootBuiltins "isinstance" = some (.builtin "isinstance") := by decide +kernel
theorem mv_none {m : Str} {es : List Expr} {ma : M (List Dat)} : MV X m es ma (fun _ => none) := ⟨fun t W tk pins sh σ H g s u v d mf Q pos pl e => nomatch e⟩
theorem ok_call (R : RecOk D C k r) (g : XG D X C k sc b) (f : Expr) (es : List Expr) (pos : Pos) : GE X (.Call f es [] pos) (r.cCall C sc b f es pos) := by
  have N := g.ok
  unfold Rec.cCall
  by_cases hs : noStar es = true
  case neg => rw [if_neg hs]; exact ge_fail
  rw [if_pos hs]
  have A := ok_cAA R g es
  have hz : es = [] → r.cAA sc b es = nilA := cAA_nil
  split
  · rename_i x p
    split
    · rename_i i h
      obtain ⟨h1, h2, h3, h4⟩ := slot_ok g h
      split
      · split
        · exact ge_fail
        · rename_i hb
          have hb : b = false := Bool.eq_false_iff.mpr hb
          exact ge_slotCall (g.stk hb) g.calm h1 h2 h3 h4 (ge_callV N (g.room.mono (by omega)) (ge_var h1 h2 h3 h4) hz hs A)
      · exact ge_callV N (g.room.mono (by omega)) (ge_var h1 h2 h3 h4) hz hs A
    · by_cases z : (isGl sc x && okName x) = true
      case neg => rw [if_neg z]; exact ge_fail
      rw [if_pos z]
      obtain ⟨q1, q2, q3⟩ := gl_ok g z
      by_cases z1 : (C.E.top x && (C.E.fn x).isSome) = true
      · rw [if_pos z1]
        obtain ⟨t1, t2⟩ := Bool.and_eq_true_iff.mp z1
        cases ef : C.E.fn x with
        | none => rw [ef] at t2; cases t2
        | some fi =>
          have F := N.fn x fi ef
          have ec : C.E.call x = fi.run := by funext ds; unfold En.call; rw [ef]
          rw [ec]
          exact ge_callG q1 (N.top x fi t1 ef) (F.2 fi.par (Nat.sub_le _ _) (Nat.le_refl _)).kp (vop_fi F (g.room.mono (by omega))) hz hs A q2
      rw [if_neg z1]
      by_cases z2 : ((C.E.ini x).isSome && (C.E.cl x).isSome) = true
      · rw [if_pos z2]
        obtain ⟨t1, t2⟩ := Bool.and_eq_true_iff.mp z2
        cases ei : C.E.ini x with
        | none => rw [ei] at t1; cases t1
        | some fi =>
          cases ec : C.E.cl x with
          | none => rw [ec] at t2; cases t2
          | some ci => exact ge_callG q1 (N.cl x ci ec).glo (N.ini x fi ei).1.kp (vop_make N (g.room.mono (by omega))) hz hs A q2
      rw [if_neg z2]
      by_cases z3 : C.E.free x = true
      case neg => rw [if_neg z3]; exact ge_fail
      rw [if_pos z3]
      have hm := N.free x z3
      split
      · exact ge_fail
      · rename_i a
        split
        · rename_i ru h
          obtain ⟨p, hp, rfl, rfl⟩ := bl_ok h
          exact ge_blt1 q1 hm (boot_blt1 p hp) q3 q2 (ok_blt1 g p hp) (ok_cP R g a) hs
        · split
          · rename_i ru h
            obtain ⟨p, hp, rfl, rfl⟩ := bl_ok h
            exact ge_blty1 q1 hm (boot_blty1 p hp) q3 q2 (ok_blty1 g p hp) (ok_cP R g a) hs
          · split
            · rename_i ru h
              obtain ⟨p, hp, rfl, rfl⟩ := bl_ok h
              exact ge_bltA q1 hm (boot_bltA p hp) q3 q2 (.inl ⟨_, rfl⟩) (ok_bltA g p hp).f1R A (by simp) hs
            · split
              · rename_i ru h
                obtain ⟨p, hp, rfl, rfl⟩ := bl_ok h
                exact ge_bltA q1 hm (boot_bltyA p hp) q3 q2 (.inr ⟨_, rfl⟩) (ok_bltyA g p hp).f1R A (by simp) hs
              · exact ge_fail
      · rename_i he _
        by_cases zi : x = ("isinstance" : Str)
        · rw [if_pos zi]
          subst zi
          exact ge_bltA q1 hm boot_isi q3 q2 (.inl ⟨_, rfl⟩) ((ok_isi N).or (ok_isX N)) A (by assumption) hs
        · rw [if_neg zi]; exact ge_fail
  · rename_i o m apos
    by_cases z : (notSuper o && decide (es.length < 30) && (apos.endLine == pos.line)) = true
    case neg => rw [if_neg z]; exact ge_fail
    rw [if_pos z]
    simp only [Bool.and_eq_true, decide_eq_true_eq] at z
    obtain ⟨⟨z1, z2⟩, z3⟩ := z
    refine ge_meth (R.cE X sc b o g) ((mv_ins N (g.room.mono (by omega)) hz hs A).or ((mv_cls N (g.room.mono (by omega)) hz hs A).or ?_)) z1 hs z2 z3
    by_cases zm : m = ("split" : Str)
    · rw [if_pos zm]; subst zm; exact mv_split hz hs A
    · rw [if_neg zm]; exact mv_none
  · exact ge_fail
theorem ok_cKw (R : RecOk D C k r) (g : XG D X C k sc b) : ∀ kws : List Keyword, GK X kws (r.cKw sc b kws)
  | [] => gk_nil
  | ⟨nm, e, p⟩ :: kws => gk_cons (R.cE X sc b e g) (ok_cKw R g kws)
theorem ok_callK (R : RecOk D C k r) (g : XG D X C k sc b) (f : Expr) (es : List Expr) (kws : List Keyword) (pos : Pos) : GE X (.Call f es kws pos) (r.cCallK C sc b f es kws pos) := by
  have N := g.ok
  unfold Rec.cCallK
  split
  · exact ge_fail
  · rename_i ks hk
    by_cases hs : noStar es = true
    case neg => rw [if_neg hs]; exact ge_fail
    rw [if_pos hs]
    have A := ok_cAA R g es
    have hz : es = [] → r.cAA sc b es = nilA := cAA_nil
    have K := ok_cKw R g kws
    split
    · rename_i x p
      by_cases z : (isGl sc x && okName x) = true
      case neg => rw [if_neg z]; exact ge_fail
      rw [if_pos z]
      obtain ⟨q1, q2, q3⟩ := gl_ok g z
      by_cases z1 : (C.E.top x && (C.E.fn x).isSome) = true
      · rw [if_pos z1]
        obtain ⟨t1, t2⟩ := Bool.and_eq_true_iff.mp z1
        cases ef : C.E.fn x with
        | none => rw [ef] at t2; cases t2
        | some fi => exact ge_callKw N (g.room.mono (by omega)) q1 q2 (N.top x fi t1 ef) ef hz hs A hk K
      rw [if_neg z1]
      by_cases z2 : ((C.E.ini x).isSome && (C.E.cl x).isSome) = true
      case neg => rw [if_neg z2]; exact ge_fail
      rw [if_pos z2]
      obtain ⟨t1, t2⟩ := Bool.and_eq_true_iff.mp z2
      cases ei : C.E.ini x with
      | none => rw [ei] at t1; cases t1
      | some fi =>
        cases ec : C.E.cl x with
        | none => rw [ec] at t2; cases t2
        | some ci => exact ge_makeKw N (g.room.mono (by omega)) q1 q2 ei ec hz hs A hk K
    · rename_i o m apos
      by_cases z : (notSuper o && decide (es.length + kws.length < 29) && (apos.endLine == pos.line)) = true
      case neg => rw [if_neg z]; exact ge_fail
      rw [if_pos z]
      simp only [Bool.and_eq_true, decide_eq_true_eq] at z
      obtain ⟨⟨z1, z2⟩, z3⟩ := z
      exact ge_methKw N (g.room.mono (by omega)) (R.cE X sc b o g) hz hs A hk K z1 z2 z3
    · exact ge_fail
theorem noPar_ok {ps : Arguments} (h : noParB ps = true) : ps = noPar := by
  unfold noParB at h
  split at h
  · rfl
  · cases h
theorem ok_cLam (RL : RlOk D C k rl) (g : XG D X C k sc b) (x : Str) (ps : Arguments) (body : Expr) (lsc : Scope) (p lpos pos : Pos) : GE X (.Call (.Name x p) [.Lambda ps body lsc lpos] [] pos) (Rec.cLam C rl sc b x ps body lsc) := by
  unfold Rec.cLam
  split
  · rename_i n pth q ht
    by_cases z : (!b && isGl sc x && okName x && noParB ps && LamX.lamSB sc lsc) = true
    case neg => rw [if_neg z]; exact ge_fail
    rw [if_pos z]
    simp only [Bool.and_eq_true, Bool.not_eq_true'] at z
    obtain ⟨⟨⟨⟨hb, z1⟩, z2⟩, z3⟩, z4⟩ := z
    obtain ⟨q1, q2, q3⟩ := gl_ok g (Bool.and_eq_true_iff.mpr ⟨z1, z2⟩)
    obtain ⟨kl, hk, rl_ok⟩ := RL (by rw [ht]; rfl)
    obtain ⟨l1, l2, l3⟩ := g.lam hb n pth q ht
    rw [noPar_ok z3]
    refine ge_lamcall g.ok (g.room.mono (by omega)) hk q1 q2 l3 l1 l2 (LamX.lamS_by (by rw [g.sce hb]; exact z4)) fun f c' A outer s2 H2 E2 hr => ?_
    exact rl_ok (LamX.lamCx X A outer s2 H2 E2 lsc f c') lsc body g.md g.nm g.nd rfl rfl hr
  · exact ge_fail
end
end Zw

namespace Zw
open PySem L2 PyProof.Rows PySem.Spec ClX
section
variable {D : Md} {X : Cx} {C : Cc} {k : Nat} {sc : Scope} {b : Bool} {r rl : Rec}
/-! targets -/
theorem nm_fn (g : XG D X C k sc b) {x : Str} (h : (isLoc sc x && (!b || isLocal sc x)) = true) : Loc X.env.scope x ∧ (X.fn x = true ∨ X.env.scope.names.lookup x = some .local) := by
  obtain ⟨h1, h2⟩ := Bool.and_eq_true_iff.mp h
  refine ⟨g.sc.locv (isLoc_ok h1), ?_⟩
  rcases Bool.or_eq_true_iff.mp h2 with q | q
  · cases b with
    | false => exact g.fn rfl x (g.sc.locv (isLoc_ok h1))
    | true => cases q
  · exact .inr (g.sc.loc x (isLocal_ok q))
theorem noStar_names {n : Nat} : ∀ {es : List Expr} {p : (List Dat → MS) × List Nat}, tgM.tgs C.N sc b n es = some p → (assignEach es X.env).length = es.length ∧ (assignEach es X.env).findIdx? (·.1) = none := by
  induction n with
  | zero => intro es p h; cases h
  | succ n ih =>
    intro es p h
    unfold tgM.tgs at h
    split at h
    · exact ⟨rfl, rfl⟩
    · rename_i x px es
      split at h
      · split at h
        · rename_i i q h1 h2
          obtain ⟨k1, k2⟩ := ih h2
          refine ⟨?_, ?_⟩
          · show (assignEach es X.env).length + 1 = _
            rw [k1]; rfl
          · show ((false, _) :: assignEach es X.env).findIdx? (·.1) = none
            rw [List.findIdx?_cons, k2]; rfl
        · cases h
      · cases h
    · cases h
theorem ok_tgs (g : XG D X C k sc b) {n : Nat} : ∀ {es : List Expr} {p : (List Dat → MS) × List Nat}, tgM.tgs C.N sc b n es = some p → GGs X es p.1 p.2 := by
  induction n with
  | zero => intro es p h; cases h
  | succ n ih =>
    intro es p h
    unfold tgM.tgs at h
    split at h
    · cases h; exact ggs_nil
    · rename_i x px es
      split at h
      · rename_i hx
        split at h
        · rename_i i q h1 h2
          cases h
          obtain ⟨l1, l2⟩ := nm_fn g hx
          exact ggs_cons (ggc_name g.nd (by rw [g.nm]; exact idx_at h1) l1 l2) (ih h2) rfl
        · cases h
      · cases h
    · cases h
theorem ok_tgM (g : XG D X C k sc b) {n : Nat} {tg : Expr} {p : (Dat → MS) × List Nat} (h : tgM C.N sc b n tg = some p) : GGc X tg p.1 p.2 := by
  cases n with
  | zero => cases h
  | succ n =>
    unfold tgM at h
    dsimp only at h
    split at h
    · rename_i x px
      split at h
      · rename_i hx
        obtain ⟨i, h1, h2⟩ := Option.map_eq_some_iff.mp h
        subst h2
        obtain ⟨l1, l2⟩ := nm_fn g hx
        exact ggc_name g.nd (by rw [g.nm]; exact idx_at h1) l1 l2
      · cases h
    · rename_i es kt pt
      obtain ⟨q, h1, h2⟩ := Option.map_eq_some_iff.mp h
      subst h2
      obtain ⟨k1, k2⟩ := noStar_names (X := X) h1
      exact ggc_tup g.calm (ok_tgs g h1) k1 k2
    · cases h
theorem folded_ok {e : Expr} {env : Env} (h : notSet e = true) (x : Value) : foldedSetIterable e env x = pure x := by
  unfold foldedSetIterable
  cases e <;> first | rfl | cases h
theorem marks_ok {e : Expr} {op : CmpOp} (h : notSet e = true) : behindInMarks op e = false := by
  cases e <;> first | rfl | cases h
theorem marks_cmp {e : Expr} {op : CmpOp} (h : inR op = none) : behindInMarks op e = false := by
  unfold behindInMarks
  split
  · cases op <;> first | (cases h; done) | simp
  · rfl
theorem ok_cI (R : RecOk D C k r) (g : XG D X C k sc b) (tg e : Expr) : GI X tg e (r.cI C sc b e) := by
  unfold Rec.cI
  split
  · rename_i x p es pos
    split
    · rename_i z
      simp only [Bool.and_eq_true, Bool.or_eq_true, decide_eq_true_eq] at z
      obtain ⟨⟨⟨⟨z1, z2⟩, z3⟩, z4⟩, z5⟩ := z
      subst z1
      exact gi_range (g.sc.glo _ (isGl_ok z2)) (g.ok.free _ z3) (R.cA X sc b es g) z4 z5
    · exact gi_seq (R.cE X sc b _ g)
  · exact gi_seq (R.cE X sc b _ g)
theorem blk_rel {N : List Str} {sc sc' bsc : Scope} {own : List (Str × Nat)} (s : ScR sc sc') (h : BlkOk N sc bsc own) : BlkOk N sc' bsc own := ⟨h.kind, h.uniq, h.ix, fun y hy e => by
  rcases h.free y hy e with q | q
  · exact .inl (s.cel _ q)
  · exact s.fre _ q, h.own⟩
/-- the block's context -/
theorem XG.blk (g : XG D X C k sc b) {bsc : Scope} {s : Shared} {H : Hp} {cl : List (Str × Addr)} {Ca : Addr} {fp : List Addr} : XG D (X.blk s H bsc (compEnvC bsc cl Ca X.env) fp) C k bsc true where
  ok := g.ok
  nm := g.nm
  nd := g.nd
  sc := ScR.relab
  calm := g.calm
  room := g.room
  fn := fun z => by cases z
  md := g.md
  sce := fun z => by cases z
  stk := fun z => by cases z
  lam := fun z => by cases z
theorem ok_cTs (R : RecOk D C k r) (g : XG D X C k sc b) {ifs : List Expr} {t : M Bool} (h : r.cTs sc b ifs = some t) : GTs X ifs t := by
  unfold Rec.cTs at h
  split at h
  · cases h; exact gts_nil
  · cases h; exact gts_one (R.cT X sc b _ g)
  · cases h
theorem GGc.mono {tg : Expr} {m : Dat → MS} {vs ws : List Nat} (h : GGc X tg m vs) (s : vs ⊆ ws) : GGc X tg m ws := ⟨fun t => ⟨fun pins sh σ H v u Q I rv ⟨g, s', d, L, r, q⟩ => (h.run t).run pins sh σ H v u Q I rv ⟨g, s', d, L, r, by
  cases e : m d s' with
  | nx s1 =>
    rw [e] at q
    exact fun σ' L' l' a => q σ' L' l' fun i hi => a i fun z => hi (s z)
  | _ => rw [e] at q; exact q⟩⟩, h.cs⟩
theorem ok_cLc (R : RecOk D C k r) (g : XG D X C k sc b) (elt tg iter : Expr) (ifs : List Expr) (bsc : Scope) (pos : Pos) : GE X (.ListComp elt [⟨tg, iter, ifs, 0⟩] bsc pos) (r.cLc C sc b elt tg iter ifs bsc) := by
  unfold Rec.cLc
  split
  · rename_i z
    obtain ⟨z1, z2⟩ := Bool.and_eq_true_iff.mp z
    split
    · rename_i p t h1 h2
      split
      · rename_i hs
        have bk : BlkOk X.N X.env.scope bsc (ownOf C.N bsc) := by rw [g.nm]; exact blk_rel g.sc (blkOk_by z1)
        exact ge_lc rfl g.calm g.nd (ok_cI R g tg iter) bk (fun s H Ca cl fp => (ok_tgM g.blk h1).mono hs) (fun d s s' e => (ok_tgM (g.blk (s := X.s_0) (H := fun _ => none) (cl := []) (Ca := 0) (fp := [])) h1).cs d s s' e)
          (fun s H Ca cl fp => ok_cTs R g.blk h2) (fun s H Ca cl fp => R.cE _ bsc true elt g.blk) (folded_ok z2)
      · exact ge_fail
    · exact ge_fail
  · exact ge_fail
theorem ok_lcS (R : RecOk D C k r) (g : XG D X C k sc b) {i : Nat} {y : Str} {py spos pos : Pos} {elt tg iter : Expr} {ifs : List Expr} {bsc : Scope} (hy : X.N[i]? = some y) (hyl : X.env.scope.names.lookup y = some .local) (hsw : swapsWith (.ListComp elt [⟨tg, iter, ifs, 0⟩] bsc pos) (some (.Name y py)) spos.line X.env = pure true) :
    GS X (.Assign [.Name y py] (.ListComp elt [⟨tg, iter, ifs, 0⟩] bsc pos) spos) (bndS (r.cLc C sc b elt tg iter ifs bsc) (asgS i)) := by
  unfold Rec.cLc
  have no : GS X (.Assign [.Name y py] (.ListComp elt [⟨tg, iter, ifs, 0⟩] bsc pos) spos) (bndS fail (asgS i)) := ⟨fun t W tk => ⟨fun pins sh σ H D I ⟨g, s, L, q⟩ => q.elim⟩⟩
  split
  · rename_i z
    obtain ⟨z1, z2⟩ := Bool.and_eq_true_iff.mp z
    split
    · rename_i p t h1 h2
      split
      · rename_i hs
        have bk : BlkOk X.N X.env.scope bsc (ownOf C.N bsc) := by rw [g.nm]; exact blk_rel g.sc (blkOk_by z1)
        exact gs_setLc rfl g.calm g.nd hy hyl hsw (ok_cI R g tg iter) bk (fun s H Ca cl fp => (ok_tgM g.blk h1).mono hs) (fun d s s' e => (ok_tgM (g.blk (s := X.s_0) (H := fun _ => none) (cl := []) (Ca := 0) (fp := [])) h1).cs d s s' e)
          (fun s H Ca cl fp => ok_cTs R g.blk h2) (fun s H Ca cl fp => R.cE _ bsc true elt g.blk) (folded_ok z2)
      · exact no
    · exact no
  · exact no
end
end Zw

namespace Zw
open PySem L2 PyProof.Rows PySem.Spec ClX
section
variable {D : Md} {X : Cx} {C : Cc} {k : Nat} {sc : Scope} {b : Bool} {r rl : Rec}
/-- what is compared by looking at its right side -/
theorem ge_cmpP {op : CmpOp} {a c : Expr} {pos : Pos} {ma mc : M Dat} {ru : Rule} (ho : ROkT X (f2 (compareOp op)) ru) (ha : GE X a ma) (hc : GP X c mc) (hm : behindInMarks op c = false) :
    GE X (.Compare a [op] [c] pos) (bnd ma fun x => bnd mc fun y => runR ru [x, y]) :=
  GE.of fun t W tk pins sh σ H g s Q I L q => wpAny_Compare1 (ha.seq tk I L q fun u sh1 v g1 s1 H1 d I1 rv e1 L1 r1 q1 => hc.seq tk I1 L1 q1 fun u2 sh2 v2 g2 s2 H2 d2 I2 rv2 e2 L2 r2 q2 => by
    unfold runR at q2
    cases em : ru [d, d2] with
    | none => rw [em] at q2; exact q2.elim
    | some m => rw [em] at q2; exact ho t W tk pins sh2 σ H2 g2 s2 [v, v2] [u, u2] [d, d2] m Q em I2 (.cons rv (.cons rv2 .nil)) L2 (.cons (.inl (e2.le.rep r1)) (.cons r2 .nil)) q2) hm
theorem gt_cmpP {op : CmpOp} {a c : Expr} {pos : Pos} {ma mc : M Dat} {ru : Rule} {mt : Dat → M Bool} (hv : VTr X mt) (ho : ROkT X (f2 (compareOp op)) ru) (ha : GE X a ma) (hc : GP X c mc) (hm : behindInMarks op c = false) :
    GT X (.Compare a [op] [c] pos) (bnd ma fun x => bnd mc fun y => bnd (runR ru [x, y]) mt) :=
  GT.of fun t W tk pins sh σ H g s Q I L q => wpAny_isTrue_Compare1 (ha.seq tk I L q fun u sh1 v g1 s1 H1 d I1 rv e1 L1 r1 q1 => hc.seq tk I1 L1 q1 fun u2 sh2 v2 g2 s2 H2 d2 I2 rv2 e2 L2 r2 q2 => by
    have key : ∀ (m : M Dat), ru [d, d2] = some m → atT X.K t W g2 s2 σ H2 (bnd m mt s2) Q → wpAny (model X.prog X.w) X.A (compareOp op u u2) (fun v s' => wpAny (model X.prog X.w) X.A (truthy v) (TP X pins σ Q) X.xe s') X.xe sh2 := fun m em qm => by
      refine thn (ho t W tk pins sh2 σ H2 g2 s2 [v, v2] [u, u2] [d, d2] m (fun v3 H3 => ∃ d3 g3 s3, EK [] g2 s2.cs H2 g3 s3.cs H3 ∧ LRel X.K t g3 s3 σ H3 ∧ RepG X.K g3 v3 d3 ∧ atT X.K t W g3 s3 σ H3 (mt d3 s3) Q) em I2 (.cons rv (.cons rv2 .nil)) L2 (.cons (.inl (e2.le.rep r1)) (.cons r2 .nil))
        (at_seq qm fun d g1 s1 v H1 ek L1 r q1 => ⟨d, g1, s1, ek, L1, r, q1⟩)) fun u3 sh3 ⟨v3, H3, I3, rv3, d3, g3, s3, e3, L3, r3, q3⟩ => ?_
      exact hv t W tk pins sh3 σ H3 g3 s3 v3 u3 d3 Q I3 rv3 L3 r3 q3
    unfold runR at q2
    cases em : ru [d, d2] with
    | none => rw [em] at q2; exact q2.elim
    | some m => rw [em] at q2; exact key m em q2) hm
theorem ok_joined (R : RecOk D C k r) (g : XG D X C k sc b) : ∀ es : List Expr, GJ X es (es.map (r.cE sc b))
  | [] => .nil
  | e :: es => .cons (R.cE X sc b e g) (ok_joined R g es)
theorem ge_notV {a : Expr} {pos : Pos} {ma : M Dat} {mt : Dat → M Bool} (hv : VTr X mt) (ha : GE X a ma) : GE X (.UnaryOp .Not a pos) (bnd ma fun x => bnd (mt x) fun c => pur (.bl (!c))) :=
  GE.of fun t W tk pins sh σ H g s Q I L q => UnaryOp_ (ha.seq tk I L q fun u sh1 v g1 s1 H1 d I1 rv e1 L1 r1 q1 => not_of (thn (hv t W tk pins sh1 σ H1 g1 s1 v u d (fun c H2 => Q (.bl (!c)) H2) I1 rv L1 r1
    (at_seq (R := fun _ a b => a = b) q1 fun d2 g2 s2 v2 H2 ek2 L2 r2 q2 => by subst r2; exact at_here (v := V.bl (!v2)) L2 q2 (.bl _))) fun c sh2 ⟨H2, I2, q2⟩ => ⟨.bl (!c), H2, I2, rfl, q2⟩))
theorem ok_cAnd (R : RecOk D C k r) (g : XG D X C k sc b) {pos : Pos} : ∀ (es : List Expr) (a : Expr), GW X (.BoolOp .And (a :: es) pos) (r.cAnd sc b (a :: es))
  | [], a => gw_and1 (R.cT X sc b a g)
  | c :: es, a => gw_and (R.cT X sc b a g) (ok_cAnd R g es c)
theorem ok_cOr (R : RecOk D C k r) (g : XG D X C k sc b) {pos : Pos} : ∀ (es : List Expr) (a : Expr), GW X (.BoolOp .Or (a :: es) pos) (r.cOr sc b (a :: es))
  | [], a => gw_or1 (R.cT X sc b a g)
  | c :: es, a => gw_or (R.cT X sc b a g) (ok_cOr R g es c)
theorem ok_cPs (R : RecOk D C k r) (g : XG D X C k sc b) : ∀ {ks : List (Option Expr)} {vs : List Expr} {ms : List (M Dat × M Dat)}, r.cPs sc b ks vs = some ms → GPs X ks vs ms
  | [], [], _, h => by cases h; exact .nil
  | some k :: ks, v :: vs, _, h => by
    unfold Rec.cPs at h
    obtain ⟨ms, h1, h2⟩ := Option.map_eq_some_iff.mp h
    subst h2
    exact .cons (R.cE X sc b k g) (R.cE X sc b v g) (ok_cPs R g h1)
  | [], _ :: _, _, h => by cases h
  | none :: _, _, _, h => by unfold Rec.cPs at h; cases h
  | some _ :: _, [], _, h => by cases h
theorem chOk_ok {op op' : CmpOp} {c d : Expr} (h : chOk op op' c d = true) : lastMarks [op, op'] [c, d] = false := by
  unfold chOk at h
  simp only [Bool.and_eq_true, Bool.not_eq_true'] at h
  exact h.2
theorem isRepL_ok {a c : Expr} {op : Operator} {p : List Expr × Int} (h : isRepL a op c = some p) : ∃ pl j p', a = .List p.1 pl ∧ op = .Mult ∧ c = .Constant (.int p.2) j p' := by
  unfold isRepL at h
  split at h
  · cases h; exact ⟨_, _, _, rfl, rfl, rfl⟩
  · cases h
theorem ok_stepE (R : RecOk D C k r) (RL : RlOk D C k rl) (g : XG D X C k sc b) (e : Expr) : GE X e (r.stepE C rl sc b e) := by
  have N := g.ok
  have E := fun e => R.cE X sc b e g
  have T := fun e => R.cT X sc b e g
  have A := fun e => R.cA X sc b e g
  unfold Rec.stepE
  split
  · split
    · exact ge_int
    · exact ge_bl
    · exact ge_non
    · exact ge_str
    · exact ge_fail
  · exact ok_nameM g
  · split
    · rename_i p hp
      obtain ⟨pl, j, p', rfl, rfl, rfl⟩ := isRepL_ok hp
      split
      · exact ge_repL (A _)
      · exact ge_fail
    · exact ge_bin (vop2 (ok_binR g _)) (E _) (E _)
  · split
    · exact ge_notV (vtr N (g.room.mono (by omega))) (E _)
    · exact ge_una (vop1 (ok_unaR g _)) (E _)
  · split
    · rename_i h
      split
      · rename_i z
        exact ge_cmpP (ok_inR g h) (E _) (ok_cP R g _) (marks_ok z)
      · exact ge_fail
    · rename_i h
      exact ge_cmp (vop2 (ok_cmpR g _)) (E _) (E _) (marks_cmp h)
  · split
    · rename_i z
      exact ge_chain (vop2 (ok_cmpR g _)) (vop2 (ok_cmpR g _)) (E _) (E _) (E _) (chOk_ok z)
    · exact ge_fail
  · split
    · split
      · exact ge_dic0
      · exact ge_fail
    · rename_i hn
      split
      · rename_i hl
        split
        · rename_i ms hm
          exact ge_disp (ok_cPs R g hm) (fun z => hn z) hl
        · exact ge_fail
      · exact ge_fail
  · split
    · exact ge_oneV (E _)
    · exact ge_andV (E _) (E _)
    · exact ge_orV (E _) (E _)
    · exact ge_fail
  · exact ge_ife (T _) (E _) (E _)
  · split
    · exact ge_tup (A _)
    · exact ge_fail
  · split
    · exact ge_lst (A _)
    · exact ge_fail
  · exact ge_slice (E _) (ok_cO R g _) (ok_cO R g _)
  · split
    · exact ge_fail
    · rename_i z
      have z := Bool.eq_false_iff.mpr z
      split
      · rename_i i h
        obtain ⟨h1, h2, h3, h4⟩ := slot_ok g h
        exact ge_ixN h1 h2 h3 h4 ok_ix (E _) z
      · exact ge_ixE ok_ix (E _) (E _) z
  · split
    · exact ge_fail
    · rename_i z
      exact ge_ixE ok_ix (E _) (E _) (Bool.eq_false_iff.mpr z)
  · split
    · rename_i z
      exact ge_attr (E _) (vop_getX N (g.room.mono (by omega))) (base_of z)
    · exact ge_fail
  · exact ok_cLam RL g _ _ _ _ _ _ _
  · exact ok_call R g _ _ _
  · exact ok_callK R g _ _ _ _
  · exact ok_cLc R g _ _ _ _ _ _
  · split
    · rename_i z
      exact ge_fmtE z N g.room (E _)
    · exact ge_fail
  · exact ge_join1 (E _)
  · exact ge_join (ok_joined R g _)
  · exact ge_fail
theorem ok_stepT (R : RecOk D C k r) (g : XG D X C k sc b) (e : Expr) : GT X e (r.stepT C sc b e) := by
  have N := g.ok
  have E := fun e => R.cE X sc b e g
  have T := fun e => R.cT X sc b e g
  have hv : VTr X C.E.tru := vtr N (g.room.mono (by omega))
  unfold Rec.stepT
  split
  · exact gt_not (T _)
  · rename_i op es pos
    split
    · cases es with
      | nil => exact gt_fail
      | cons a es => exact (ok_cAnd R g es a).gt
    · cases es with
      | nil => exact gt_fail
      | cons a es => exact (ok_cOr R g es a).gt
  · split
    · rename_i h
      split
      · rename_i z
        exact gt_cmpP hv (ok_inR g h) (E _) (ok_cP R g _) (marks_ok z)
      · exact gt_fail
    · rename_i h
      exact gt_cmp hv (vop2 (ok_cmpR g _)) (E _) (E _) (marks_cmp h)
  · split
    · rename_i z
      exact gt_chain hv (vop2 (ok_cmpR g _)) (vop2 (ok_cmpR g _)) (E _) (E _) (E _) (chOk_ok z)
    · exact gt_fail
  · exact gt_val hv (E _) fun _ => rfl
  · exact gt_val hv (E _) fun _ => rfl
  · exact gt_val hv (E _) fun _ => rfl
  · exact gt_val hv (E _) fun _ => rfl
  · exact gt_val hv (E _) fun _ => rfl
  · exact gt_fail
theorem ok_stepA (R : RecOk D C k r) (g : XG D X C k sc b) (es : List Expr) : GA X es (r.stepA sc b es) := by
  unfold Rec.stepA
  split
  · exact ga_nil
  · split
    · rename_i z
      exact ga_cons (R.cE X sc b _ g) (R.cA X sc b _ g) (star_cons z).1
    · exact ga_fail
end
end Zw

namespace Zw
open PySem L2 PyProof.Rows PySem.Spec ClX
/-- where a statement runs -/
structure XS (D : Md) (X : Cx) (C : Cc) (k : Nat) (sc0 : Scope) : Prop extends XG D X C k sc0 false where
  pass : PassesOwn (model X.prog X.w) X.A X.env X.xe
  frm : X.env.frame = some X.env.locals
  ex0 : X.ex = []
  kind : X.env.scope.kind = .function
structure RecOkS (D : Md) (C : Cc) (k : Nat) (r : Rec) : Prop extends RecOk D C k r where
  cS : ∀ X sc st, XS D X C k sc → GS X st (r.cS sc st)
  cB : ∀ X sc st, XS D X C k sc → GSs X st (r.cB sc st)
section
variable {D : Md} {X : Cx} {C : Cc} {k : Nat} {sc : Scope} {r rl : Rec}
theorem blk_fn (g : XS D X C k sc) : X.env.blockKind = .function := by
  unfold Env.blockKind
  rw [g.kind]; rfl
theorem sw_lc {e : Expr} {tg : Option Expr} {l : Nat} {env : Env} (h : isLc e = false) : swapsWith e tg l env = pure false := by
  cases e <;> first | (cases h; done) | rfl
theorem sw_tup {e : Expr} {es : List Expr} {kt : Nat} {pt : Pos} {l : Nat} {env : Env} : swapsWithSole [.Tuple es kt pt] e l env = pure false := by
  cases e <;> rfl
theorem ss_tup {e : Expr} {tg : Expr} {env : Env} (h : isTup e = false) : swappedStores [tg] e env = pure none := by
  cases e <;> first | (cases h; done) | (cases tg <;> rfl)
theorem tgs_simple {N : List Str} {b : Bool} {n : Nat} : ∀ {es : List Expr} {p : (List Dat → MS) × List Nat}, tgM.tgs N sc b n es = some p → ∀ d s, ∃ s', p.1 d s = .nx s' ∨ p.1 d s = .stuck := by
  induction n with
  | zero => intro es p h; cases h
  | succ n ih =>
    intro es p h d s
    unfold tgM.tgs at h
    split at h
    · cases h
      cases d with
      | nil => exact ⟨s, .inl rfl⟩
      | cons _ _ => exact ⟨s, .inr rfl⟩
    · split at h
      · split at h
        · rename_i i q h1 h2
          cases h
          cases d with
          | nil => exact ⟨s, .inr rfl⟩
          | cons d ds => exact ih h2 ds _
        · cases h
      · cases h
    · cases h
theorem tgM_simple {N : List Str} {b : Bool} {n : Nat} {tg : Expr} {p : (Dat → MS) × List Nat} (h : tgM N sc b n tg = some p) (d : Dat) (s : Sto) : ∃ s', p.1 d s = .nx s' ∨ p.1 d s = .stuck := by
  cases n with
  | zero => cases h
  | succ n =>
    unfold tgM at h
    dsimp only at h
    split at h
    · split at h
      · obtain ⟨i, h1, h2⟩ := Option.map_eq_some_iff.mp h
        subst h2
        exact ⟨_, .inl rfl⟩
      · cases h
    · rename_i es kt pt
      obtain ⟨q, h1, h2⟩ := Option.map_eq_some_iff.mp h
      subst h2
      show ∃ s', unpG es.length q.1 d s = .nx s' ∨ unpG es.length q.1 d s = .stuck
      unfold unpG
      split
      · split
        · exact tgs_simple h1 _ s
        · exact ⟨s, .inr rfl⟩
      · split
        · exact tgs_simple h1 _ s
        · exact ⟨s, .inr rfl⟩
      · exact ⟨s, .inr rfl⟩
    · cases h
theorem asg_sub {x : Str} {ix : Expr} {px pt : Pos} {env : Env} (h : isSlice ix = false) (v : Value) : assign (.Subscript (.Name x px) ix pt) env v = (do
      let ov ← holding [v] (eval (.Name x px) env)
      let iv ← holding [v, ov] (eval ix env)
      standAt pt
      holding [v, ov, iv] (setItem ov iv v)
      release [v, ov, iv] []) := by
  cases ix <;> first | (cases h; done) | rfl
theorem ss_none (g : XS D X C k sc) {es : List Expr} {kt : Nat} {pt : Pos} {e : Expr} (h : noSwapE sc (.Tuple es kt pt) e = true) : swappedStores [.Tuple es kt pt] e X.env = pure none := by
  by_cases z : isTup e = true
  case neg => exact ss_tup (Bool.eq_false_iff.mpr z)
  cases e with
  | Tuple vs k2 p2 =>
    have h : noSwap sc es vs = true := h
    have bk := blk_fn g
    have ke : ∀ id, X.env.kindOf id = sc.names.lookup id := fun id => by unfold Env.kindOf; rw [g.sce rfl]
    have key : ∀ f : Expr → Option Str, (∀ e, f e = plainName sc ((es.head?.map (·.pos.line)).getD 0) e) → es.filterMap f = plainNames sc es := fun f hf => by
      unfold plainNames
      congr 1
      funext e
      exact hf e
    unfold noSwap at h
    unfold swappedStores
    dsimp only
    simp only [Bool.or_eq_true] at h
    rcases h with ((h | h) | h) | h
    · rw [if_pos (by simp only [h, Bool.true_or])]
    · rw [if_pos (by simp only [h, Bool.true_or, Bool.or_true])]
    · split
      · rfl
      · split
        · rfl
        · refine (if_pos ?_).trans rfl
          rw [Bool.or_eq_true, key _ (fun e => by cases e <;> simp [ke, plainName])]
          exact h
    · split
      · rfl
      · split
        · rfl
        · split
          · rfl
          · first | rfl | exact (if_pos h).trans rfl
  | _ => cases z
theorem ok_cAsgT (R : RecOkS D C k r) (g : XS D X C k sc) {tg e : Expr} {pos : Pos} (ht : isTup tg = true) : GS X (.Assign [tg] e pos) (r.cAsgT C sc tg e) := by
  unfold Rec.cAsgT
  cases tg with
  | Tuple es kt pt =>
    by_cases z : noSwapE sc (.Tuple es kt pt) e = true
    case neg => rw [if_pos (by simp [z])]; exact gs_stuck
    rw [if_neg (by simp [z])]
    split
    · rename_i p h
      exact gs_asg (R.cE X sc false e g.toXG) (ok_tgM g.toXG h).gg sw_tup (ss_none g z) rfl (tgM_simple h)
    · exact gs_stuck
  | _ => cases ht
theorem swap_ok (g : XS D X C k sc) {x y : Str} {px py pt pt2 : Pos} {kt k2 : Nat} {a c : Expr} (h : swapOk sc x y px py a c = true) (hs : noStar [a, c] = true) (hxy : (x == y) = false) : swappedStores [.Tuple [.Name x px, .Name y py] kt pt] (.Tuple [a, c] k2 pt2) X.env = pure (some [x, y]) := by
  unfold swapOk at h
  simp only [Bool.and_eq_true, Bool.not_eq_true'] at h
  obtain ⟨⟨⟨⟨h1, h2⟩, h3⟩, h4⟩, h5⟩ := h
  have l1 : X.env.kindOf x = some .local := by unfold Env.kindOf; rw [g.sce rfl]; exact isLocal_ok h1
  have l2 : X.env.kindOf y = some .local := by unfold Env.kindOf; rw [g.sce rfl]; exact isLocal_ok h2
  have bk := blk_fn g
  have h3' : px.line = py.line := by simpa using h3
  have hne : x ≠ y := fun z => by rw [z] at hxy; simp at hxy
  have hp : (Expr.Name x px).pos.line = py.line := h3'
  unfold swappedStores
  dsimp only
  simp only [bk, List.length_cons, List.length_nil, bne_self_eq_false, Bool.or_false, Bool.false_eq_true, if_false, beq_self_eq_true, Bool.true_or, Bool.not_true, List.head?_cons, Option.map_some, Option.getD_some, hp, Nat.zero_add, List.any_cons, List.any_nil, List.all_cons, List.all_nil, Bool.and_true, h4, h5]
  rw [if_neg (fun h => by
    rcases Bool.or_eq_true_iff.mp h with h | h
    · cases a <;> first | (cases h; done) | (cases hs; done)
    · obtain ⟨_, n2⟩ := star_cons (env := X.env) hs
      cases c <;> first | (cases h; done) | (cases n2; done))]
  simp [l1, l2, h3', List.eraseDups_cons, Ne.symm hne, List.filterMap_cons]
theorem swap3_ok (g : XS D X C k sc) {x y z : Str} {px py pz pt pt2 : Pos} {kt k2 : Nat} {a b c : Expr} (h : swap3Ok sc x y z px py pz a b c = true) (hs : noStar [a, b, c] = true) : swappedStores [.Tuple [.Name x px, .Name y py, .Name z pz] kt pt] (.Tuple [a, b, c] k2 pt2) X.env = pure (some [x, y, z]) := by
  unfold swap3Ok at h
  simp only [Bool.and_eq_true, Bool.not_eq_true'] at h
  obtain ⟨⟨⟨⟨⟨⟨⟨⟨⟨h1, h2⟩, h3⟩, h4⟩, h5⟩, h6⟩, h7⟩, h8⟩, h9⟩, h10⟩ := h
  have l1 : X.env.kindOf x = some .local := by unfold Env.kindOf; rw [g.sce rfl]; exact isLocal_ok h1
  have l2 : X.env.kindOf y = some .local := by unfold Env.kindOf; rw [g.sce rfl]; exact isLocal_ok h2
  have l3 : X.env.kindOf z = some .local := by unfold Env.kindOf; rw [g.sce rfl]; exact isLocal_ok h3
  have bk := blk_fn g
  have h4' : px.line = py.line := by simpa using h4
  have h5' : px.line = pz.line := by simpa using h5
  have n1 : x ≠ y := fun z => by rw [z] at h6; simp at h6
  have n2 : x ≠ z := fun q => by rw [q] at h7; simp at h7
  have n3 : y ≠ z := fun q => by rw [q] at h8; simp at h8
  have hp : (Expr.Name x px).pos.line = px.line := rfl
  obtain ⟨_, m2⟩ := star_cons (env := X.env) hs
  obtain ⟨_, m3⟩ := star_cons (env := X.env) m2
  unfold swappedStores
  dsimp only
  simp only [bk, List.length_cons, List.length_nil, bne_self_eq_false, Bool.or_false, Bool.false_eq_true, if_false, beq_self_eq_true, Bool.or_true, Bool.not_true, List.head?_cons, Option.map_some, Option.getD_some, hp, Nat.zero_add, List.any_cons, List.any_nil, List.all_cons, List.all_nil, Bool.and_true, h9, h10]
  rw [if_neg (fun h => by
    rcases Bool.or_eq_true_iff.mp h with h | h
    · cases a <;> first | (cases h; done) | (cases hs; done)
    · rcases Bool.or_eq_true_iff.mp h with h | h
      · cases b <;> first | (cases h; done) | (cases m2; done)
      · cases c <;> first | (cases h; done) | (cases m3; done))]
  simp [l1, l2, l3, ← h4', ← h5', List.eraseDups_cons, n1, n2, n3, Ne.symm n1, Ne.symm n2, Ne.symm n3, List.filterMap_cons]
theorem XS.tr (g : XS D X C k sc) {pn : List (Addr × Obj)} {xe : Value → Shared → Prop} (h : PassesOwn (model X.prog X.w) X.A X.env xe) : XS D (X.tr pn xe) C k sc where
  ok := g.ok
  nm := g.nm
  nd := g.nd
  sce := g.sce
  sc := g.sc
  calm := g.calm
  room := g.room
  fn := g.fn
  md := g.md
  stk := g.stk
  lam := g.lam
  pass := h
  frm := g.frm
  ex0 := g.ex0
  kind := g.kind
/-! ### except clauses -/
theorem ok_suS (g : XS D X C k sc) {a : Addr} {st : Stmt} {m : MS} (h : suS C.N sc st = some m) : GS (inSuite X a) st m := by
  unfold suS at h
  split at h
  · rename_i x px y py pos
    split at h
    · rename_i hl
      split at h
      · rename_i i j h1 h2
        cases h
        obtain ⟨k1, k2, k3, k4⟩ := slot_ok g.toXG h2
        exact gs_set (X := inSuite X a) g.nd (by show X.N[i]? = some x; rw [g.nm]; exact idx_at h1) (by show Loc X.env.scope x; rw [g.sce rfl]; exact isLoc_ok hl) (g.fn rfl x (by rw [g.sce rfl]; exact isLoc_ok hl)) (ge_var (X := inSuite X a) k1 k2 k3 k4) rfl
      · cases h
    · cases h
  · cases h; exact gs_retN
  · cases h; exact gs_ret ge_non
  · cases h; exact gs_ret ge_bl
  · cases h; exact gs_ret ge_str
  · cases h; exact gs_pass
  · cases h; exact gs_cont
  · cases h
theorem ok_suB (g : XS D X C k sc) {a : Addr} : ∀ {st : List Stmt} {m : MS}, suB C.N sc st = some m → GSs (inSuite X a) st m
  | [], _, h => by cases h; exact gss_nil
  | st :: rest, _, h => by
    unfold suB at h
    split at h
    · rename_i m f h1 h2
      cases h
      exact gss_cons (ok_suS g h1) (ok_suB g h2)
    · cases h
theorem ok_as (g : XS D X C k sc) {on : Option Str} {i : Option Nat} (h : asSlot C.N sc on = some i) : AsOk X on i := by
  cases on with
  | none => cases h; exact True.intro
  | some n =>
    unfold asSlot at h
    dsimp only at h
    split at h
    · rename_i z
      obtain ⟨j, h1, h2⟩ := Option.map_eq_some_iff.mp h
      subst h2
      exact ⟨by rw [g.nm]; exact idx_at h1, by unfold Env.kindOf; rw [g.sce rfl]; exact isLocal_ok z⟩
    · cases h
theorem catches_ok {E : En} (N : EnOk (md X) k E) {x c : Str} {b : Bool} (h : E.catches x c = some b) : PySem.W.exmOne X.K (.ref (He.ga X.K c)) (.ref (He.ga X.K x)) = some b := by
  unfold En.catches at h
  split at h
  · rename_i xi xj h1 h2
    cases h
    have O := N.ex c xi h1
    have O2 := N.ex x xj h2
    have hs := O.sub x xj h2
    unfold PySem.W.exmOne
    rw [if_pos (by rw [O2.cls.hs]; rfl)]
    unfold PySem.W.kitCls
    dsimp only
    rw [if_pos (by rw [cls_some O2.cls.hd, O2.ty]; rfl)]
    exact hs
  · cases h
theorem ok_cTry (R : RecOkS D C k r) (g : XS D X C k sc) {body : List Stmt} {x : Str} {on : Option Str} {su : List Stmt} {np pos pos' : Pos} : GS X (.Try body [.ExceptHandler (some (.Name x np)) on su pos'] [] [] pos) (r.cTry C sc body x on su) := by
  unfold Rec.cTry
  split
  · rename_i z
    simp only [Bool.and_eq_true, Bool.not_eq_true'] at z
    obtain ⟨⟨⟨z1, z2⟩, z3⟩, z4⟩ := z
    obtain ⟨q1, q2, q3⟩ := gl_ok g.toXG (Bool.and_eq_true_iff.mpr ⟨z1, z2⟩)
    obtain ⟨xi, ex⟩ := Option.isSome_iff_exists.mp z3
    split
    · rename_i i ms h1 h2
      cases su with
      | nil => cases z4
      | cons b₀ su =>
        exact gs_try (g.stk rfl) g.frm g.ex0 g.nd (ok_as g h1) ⟨q1, q2, .inl (g.ok.ex x xi ex).glo⟩ (fun c b hc => catches_ok g.ok hc) (fun pn xe hp => R.cB _ sc body (g.tr hp)) fun a => ok_suB g h2
    · exact gs_stuck
  · exact gs_stuck
theorem ok_cRaise (R : RecOkS D C k r) (g : XS D X C k sc) {c : Str} {es : List Expr} {p p1 pos : Pos} : GS X (.Raise (some (.Call (.Name c p) es [] p1)) none pos) (r.cRaise C sc c es) := by
  unfold Rec.cRaise
  split
  · rename_i z
    simp only [Bool.and_eq_true] at z
    obtain ⟨⟨z1, z2⟩, z3⟩ := z
    obtain ⟨q1, q2, q3⟩ := gl_ok g.toXG (Bool.and_eq_true_iff.mpr ⟨z1, z2⟩)
    split
    · rename_i xi ex
      split
      · split
        · rename_i ha
          exact gs_raise0 g.ok ex (Option.isNone_iff_eq_none.mp ha) g.calm q1 q2
        · exact gs_stuck
      · split
        · rename_i hne ha
          obtain ⟨adr, had⟩ := Option.isSome_iff_exists.mp ha
          cases es with
          | nil => exact absurd rfl hne
          | cons e es => exact gs_raise g.ok ex had g.room g.calm q1 q2 z3 (R.cA X sc false _ g.toXG)
        · exact gs_stuck
    · exact gs_stuck
  · exact gs_stuck
end
end Zw

namespace Zw
open PySem L2 PyProof.Rows PySem.Spec ClX
section
variable {D : Md} {X : Cx} {C : Cc} {k : Nat} {sc : Scope} {r rl : Rec}
theorem slotS (g : XS D X C k sc) {x : Str} {i : Nat} (h : slotOf C.N sc x = some i) : X.N[i]? = some x ∧ Vis X.env.scope x ∧ (x == ("__debug__" : Str)) = false ∧ (x == ("__classdict__" : Str)) = false := slot_ok g.toXG h
theorem ok_cAsg (R : RecOkS D C k r) (g : XS D X C k sc) (tg e : Expr) (pos : Pos) : GS X (.Assign [tg] e pos) (r.cAsg C sc tg e) := by
  have E := fun e => R.cE X sc false e g.toXG
  unfold Rec.cAsg
  split
  · rename_i x px
    split
    · rename_i hl
      split
      · rename_i i h
        have hi : X.N[i]? = some x := by rw [g.nm]; exact idx_at h
        have hx : Loc X.env.scope x := by rw [g.sce rfl]; exact isLoc_ok hl
        split
        · rename_i elt tg' iter ifs bsc p
          split
          · rename_i z
            simp only [Bool.and_eq_true, Bool.not_eq_true', beq_iff_eq] at z
            obtain ⟨⟨z1, z2⟩, z3⟩ := z
            have hy : X.env.scope.names.lookup x = some .local := by rw [g.sce rfl]; exact isLocal_ok z1
            refine ok_lcS R.toRecOk g.toXG hi hy ?_
            have bk := blk_fn g
            have lk : X.env.kindOf x = some .local := hy
            have lp : px.line = (Expr.ListComp elt [⟨tg', iter, ifs, 0⟩] bsc p).pos.line := z2
            unfold swapsWith
            dsimp only
            rw [bk, lk, ← lp, z3]
            simp
          · exact gs_stuck
        · split
          · rename_i z
            exact gs_ownL g.nd hi hx (g.fn rfl x hx) (R.cA X sc false _ g.toXG)
          · exact gs_set g.nd hi hx (g.fn rfl x hx) (E _) rfl
        · split
          · exact gs_own0 g.nd hi hx (g.fn rfl x hx)
          · exact gs_set g.nd hi hx (g.fn rfl x hx) (E _) rfl
        · split
          · exact gs_stuck
          · rename_i hn
            exact gs_set g.nd hi hx (g.fn rfl x hx) (E e) (sw_lc (Bool.eq_false_iff.mpr hn))
      · exact gs_stuck
    · exact gs_stuck
  · rename_i x px y py kt pt
    split
    · rename_i a c k2 pt2
      split
      · rename_i z
        simp only [Bool.and_eq_true, Bool.not_eq_true'] at z
        obtain ⟨⟨z1, z2⟩, z3⟩ := z
        split
        · rename_i i j h1 h2
          have hx : isLocal sc x = true := by
            unfold swapOk at z1
            simp only [Bool.and_eq_true] at z1
            exact z1.1.1.1.1
          have hy : isLocal sc y = true := by
            unfold swapOk at z1
            simp only [Bool.and_eq_true] at z1
            exact z1.1.1.1.2
          have n1 : X.N[i]? = some x := by rw [g.nm]; exact idx_at h1
          have n2 : X.N[j]? = some y := by rw [g.nm]; exact idx_at h2
          have hij : i ≠ j := fun z => by
            subst z
            rw [n1] at n2
            cases n2
            simp at z3
          exact gs_par2 g.calm g.nd n1 n2 hij (by rw [g.sce rfl]; exact isLocal_ok hx) (by rw [g.sce rfl]; exact isLocal_ok hy) (R.cA X sc false _ g.toXG) (swap_ok g z1 z2 z3)
        · exact gs_stuck
      · exact ok_cAsgT R g rfl
    · exact ok_cAsgT R g rfl
  · rename_i x px y py z pz kt pt
    split
    · rename_i a c d k2 pt2
      split
      · rename_i hz
        obtain ⟨z1, z2⟩ := Bool.and_eq_true_iff.mp hz
        have zz := z1
        unfold swap3Ok at zz
        simp only [Bool.and_eq_true, Bool.not_eq_true'] at zz
        obtain ⟨⟨⟨⟨⟨⟨⟨⟨⟨l1, l2⟩, l3⟩, _⟩, _⟩, n1⟩, n2⟩, n3⟩, _⟩, _⟩ := zz
        split
        · rename_i i j l h1 h2 h3
          have i1 : X.N[i]? = some x := by rw [g.nm]; exact idx_at h1
          have i2 : X.N[j]? = some y := by rw [g.nm]; exact idx_at h2
          have i3 : X.N[l]? = some z := by rw [g.nm]; exact idx_at h3
          have d1 : i ≠ j := fun q => by subst q; rw [i1] at i2; cases i2; simp at n1
          have d2 : i ≠ l := fun q => by subst q; rw [i1] at i3; cases i3; simp at n2
          have d3 : j ≠ l := fun q => by subst q; rw [i2] at i3; cases i3; simp at n3
          exact gs_par3 g.calm g.nd i1 i2 i3 d1 d2 d3 (by rw [g.sce rfl]; exact isLocal_ok l1) (by rw [g.sce rfl]; exact isLocal_ok l2) (by rw [g.sce rfl]; exact isLocal_ok l3) (R.cA X sc false _ g.toXG) (swap3_ok g z1 z2)
        · exact gs_stuck
      · exact ok_cAsgT R g rfl
    · exact ok_cAsgT R g rfl
  · exact ok_cAsgT R g rfl
  · split
    · exact gs_stuck
    · rename_i hz
      split
      · rename_i i h
        obtain ⟨h1, h2, h3, h4⟩ := slotS g h
        exact gs_setIx h1 h2 h3 h4 (E _) (E _) (asg_sub (Bool.eq_false_iff.mpr hz))
      · exact gs_stuck
  · split
    · rename_i i h
      obtain ⟨h1, h2, h3, h4⟩ := slotS g h
      exact gs_fld g.ok h1 h2 h3 h4 (E _)
    · exact gs_stuck
  · exact gs_stuck
theorem ok_cExp (R : RecOkS D C k r) (g : XS D X C k sc) (e : Expr) (pos : Pos) : GS X (.Expr e pos) (r.cExp C sc e) := by
  have E := fun e => R.cE X sc false e g.toXG
  unfold Rec.cExp
  split
  · rename_i x px m apos a cpos
    split
    · rename_i z
      obtain ⟨rfl, z2⟩ := z
      split
      · rename_i i h
        obtain ⟨h1, h2, h3, h4⟩ := slotS g h
        split
        · rename_i zz
          obtain ⟨y1, y2⟩ := Bool.and_eq_true_iff.mp zz
          exact gs_append h1 h2 h3 h4 (E _) y1 y2
        · exact gs_stuck
      · exact gs_stuck
    · exact gs_expr (E _) rfl
  · split
    · exact gs_stuck
    · rename_i hn
      exact gs_expr (E _) (sw_lc (Bool.eq_false_iff.mpr hn))
theorem ok_stepS (R : RecOkS D C k r) (g : XS D X C k sc) (st : Stmt) : GS X st (r.stepS C sc st) := by
  have E := fun e => R.cE X sc false e g.toXG
  have T := fun e => R.cT X sc false e g.toXG
  unfold Rec.stepS
  split
  · exact gs_pass
  · exact gs_break
  · exact gs_cont
  · exact gs_retN
  · split
    · split
      · exact gs_ret (ge_cell (R.cA X sc false _ g.toXG))
      · exact gs_ret (E _)
    · exact gs_ret (E _)
  · exact gs_doc
  · exact ok_cExp R g _ _
  · exact ok_cRaise R g
  · exact ok_cTry R g
  · split
    · rename_i hl
      split
      · rename_i i h
        exact gs_aug g.nd (by rw [g.nm]; exact idx_at h) (by rw [g.sce rfl]; exact isLoc_ok hl) (g.fn rfl _ (by rw [g.sce rfl]; exact isLoc_ok hl)) (E _) (vop2 (ok_inpR g.toXG _))
      · exact gs_stuck
    · exact gs_stuck
  · exact gs_if (T _) (R.cB X sc _ g) (R.cB X sc _ g)
  · exact gs_stuck
  · split
    · rename_i z
      split
      · rename_i p h
        exact gs_for g.pass g.calm (ok_cI R.toRecOk g.toXG _ _) (ok_tgM g.toXG h).gg (R.cB X sc _ g) (folded_ok z)
      · exact gs_stuck
    · exact gs_stuck
  · exact ok_cAsg R g _ _ _
  · exact gs_stuck
theorem ok_stepS' (R : RecOkS D C k r) (g : XS D X C k sc) (st : Stmt) : GS X st (r.stepS' C sc st) := by
  unfold Rec.stepS'
  split
  · exact gs_while g.pass (R.cT X sc false _ g.toXG) (R.cB X sc _ g)
  · exact ok_stepS R g _
theorem ok_stepB (R : RecOkS D C k r) (g : XS D X C k sc) (st : List Stmt) : GSs X st (r.stepB sc st) := by
  unfold Rec.stepB
  split
  · exact gss_nil
  · exact gss_cons (R.cS X sc _ g) (R.cB X sc _ g)
theorem ok_bot : RecOkS D C k Rec.bot := ⟨⟨fun _ _ _ _ _ => ge_fail, fun _ _ _ _ _ => gt_fail, fun _ _ _ _ _ => ga_fail⟩, fun _ _ _ _ => gs_stuck, fun _ _ _ _ => gss_stuck⟩
theorem step_ok (R : RecOkS D C k r) (RL : RlOk D C k rl) : RecOkS D C k (r.step C rl) := ⟨⟨fun X sc b e g => ok_stepE R.toRecOk RL g e, fun X sc b e g => ok_stepT R.toRecOk g e, fun X sc b e g => ok_stepA R.toRecOk g e⟩, fun X sc st g => ok_stepS' R g st, fun X sc st g => ok_stepB R g st⟩
theorem comp0_ok (h : C.tab = none) : ∀ n, RecOkS D C k (comp0 C n)
  | 0 => ok_bot
  | n + 1 => step_ok (comp0_ok h n) fun z => by rw [h] at z; cases z
theorem comp_ok {EL : Option En} (h : C.tab.isSome = true → ∃ E' kl, EL = some E' ∧ kl + 4 ≤ k ∧ EnOk D kl E') : ∀ n, RecOkS D C k (comp EL C n)
  | 0 => ok_bot
  | n + 1 => step_ok (comp_ok h n) fun z => by
    obtain ⟨E', kl, h1, h2, h3⟩ := h z
    refine ⟨kl, h2, fun X lsc e hm hn hd hs hc hr => ?_⟩
    subst h1
    have R := (comp0_ok (D := D) (C := ⟨E', C.N, false, [], none⟩) (k := kl) rfl n).toRecOk
    exact R.cE X lsc true e { ok := (by rw [hm]; exact h3), nm := hn, nd := hd, sce := fun z => (by cases z), sc := (by rw [hs]; exact ScR.refl _), calm := hc, room := hr, fn := fun z => (by cases z), md := hm, stk := fun z => (by cases z), lam := fun z => (by cases z) }
end
end Zw

namespace Zw
open PySem L2 PyProof.Rows PySem.Spec ClX
/-! ### the text's tables, told by the head -/
/-- a def of the text -/
structure DefT where
  key : Str
  at_ : Str × Option Str
  name : Str
  qual : Str
  params : Arguments
  body : List Stmt
  scope : Scope
  N : List Str
  dfl : List He.Dv
  cell : Bool
  ini : Bool
  own : List Str
  tab : Option Nat
  lam : Bool
def dvDat : He.Dv → Dat
  | .non => .non
  | .bl b => .bl b
  | .int i => .int i
  | .str x => .str x
  | .ty n => .ty n
  | .glo x => .cls x
  | _ => .non
def dvOk : He.Dv → Bool
  | .byt _ => false
  | .flt _ => false
  | .adr _ => false
  | _ => true
theorem dv_rep {K : PySem.W.Frag} {g : Gh} : ∀ {v : He.Dv}, dvOk v = true → RepG K g (v.v K) (dvDat v)
  | .non, _ => .non
  | .bl b, _ => .bl b
  | .int i, _ => .int i
  | .str x, _ => .str x
  | .ty n, _ => .ty n
  | .glo x, _ => .cls x
  | .byt _, h => by cases h
  | .flt _, h => by cases h
  | .adr _, h => by cases h
theorem dvs_rep {K : PySem.W.Frag} {g : Gh} : ∀ {vs : List He.Dv}, vs.all dvOk = true → RepsG K g (vs.map (He.Dv.v K)) (vs.map dvDat)
  | [], _ => .nil
  | v :: vs, h => by
    rw [List.all_cons, Bool.and_eq_true] at h
    exact .cons (dv_rep h.1) (dvs_rep h.2)
def DefT.ps (d : DefT) : List Str := d.params.args.map (·.arg)
/-- plain parameters, by place or by name -/
def plainPar (p : Arguments) : Bool := p.posonlyargs.isEmpty && p.vararg.isNone && p.kwonlyargs.isEmpty && p.kw_defaults.isEmpty && p.kwarg.isNone
theorem plainPar_ok {p : Arguments} (h : plainPar p = true) : p = ⟨[], p.args, none, [], [], none, p.defaults⟩ := by
  unfold plainPar at h
  simp only [Bool.and_eq_true, List.isEmpty_iff, Option.isNone_iff_eq_none] at h
  obtain ⟨⟨⟨⟨h1, h2⟩, h3⟩, h4⟩, h5⟩ := h
  cases p
  simp_all
def isFnKind : ScopeKind → Bool
  | .function => true
  | _ => false
/-- positional values with the defaults behind them, told by places -/
def posOk (ps : List Str) (m : Nat) : Bool := (List.range (ps.length + 1)).all fun n => !decide (ps.length - m ≤ n) || (bindAll ps (List.range n) [] (List.range' n m) == some (List.range n ++ (List.range' n m).drop (n + m - ps.length)))
/-- what is asked of the def's text alone -/
def DefT.okT (d : DefT) : Bool := plainPar d.params && isFnKind d.scope.kind && !d.scope.isCoroutine && !d.scope.isGenerator && decide d.N.Nodup && decide (d.N.take d.ps.length = d.ps) &&
  (d.ps.all fun x => isLoc d.scope x) && (d.scope.names.all fun y => !(y.2 == .free)) && d.dfl.all dvOk && decide (d.dfl.length ≤ d.ps.length) && posOk d.ps d.dfl.length && (!d.ini || decide (d.dfl.length + 1 ≤ d.ps.length))
structure DefOk (d : DefT) : Prop where
  par : d.params = ⟨[], d.params.args, none, [], [], none, d.params.defaults⟩
  sc : FnScope d.N d.ps d.scope
  dfl : d.dfl.all dvOk = true
  le : d.dfl.length ≤ d.ps.length
  pos : posOk d.ps d.dfl.length = true
  ini : d.ini = true → d.dfl.length + 1 ≤ d.ps.length
  len : d.ps.length ≤ d.N.length
theorem DefT.ok_of {d : DefT} (h : d.okT = true) : DefOk d := by
  unfold DefT.okT at h
  simp only [Bool.and_eq_true, decide_eq_true_eq] at h
  obtain ⟨⟨⟨⟨⟨⟨⟨⟨⟨⟨⟨h1, h2⟩, h3⟩, h4⟩, h5⟩, h6⟩, h7⟩, h8⟩, h9⟩, h10⟩, h11⟩, h12⟩ := h
  refine ⟨plainPar_ok h1, ⟨?_, by simpa using h3, by simpa using h4, h5, h6, fun x hx => isLoc_ok (List.all_eq_true.mp h7 x hx), fun y hy => ?_⟩, h9, h10, h11, fun z => ?_, ?_⟩
  · revert h2
    cases d.scope.kind <;> intro h2 <;> first | rfl | cases h2
  · have := List.all_eq_true.mp h8 y hy
    simpa using this
  · rw [z] at h12
    simpa using h12
  · have := congrArg List.length h6
    rw [List.length_take] at this
    omega
/-! what the head tells of a def -/
abbrev FnWT : Type := Option (Str × Str × Arguments × FuncBody × Scope × Addr × List (Str × Addr) × Addr)
def obsF (K : PySem.W.Frag) (f : Addr) : FnWT := match K.lookup f with
  | some ⟨_, _, .func fd, _⟩ => some (fd.name, fd.qualname, fd.params, fd.body, fd.scope, fd.globals, fd.closure, fd.builtins)
  | _ => none
def DefT.val (d : DefT) : FnWT := some (d.name, d.qual, d.params, .stmts d.body, d.scope, mainGlobals, [], builtinsNs)
def fnB (K : PySem.W.Frag) (f : Addr) (q : Str) (dv : List He.Dv) : Bool := PySem.W.keepIn K (.ref f) && (match K.lookup f with
  | some ⟨_, _, .func fd, _⟩ => PySem.W.codeIn K fd.code q && He.dflB K fd.defaults (dv.map (He.Dv.v K))
  | _ => false)
theorem fun_of {K : PySem.W.Frag} {d : DefT} (e : obsF K (adP d.at_ K) = d.val) (c : fnB K (adP d.at_ K) d.qual d.dfl = true) : ∃ fd, FunD K d.name d.qual d.params d.body d.scope (d.dfl.map (He.Dv.v K)) [] (adP d.at_ K) fd := by
  obtain ⟨kp, c2⟩ := Bool.and_eq_true_iff.mp c
  unfold obsF at e
  cases q : K.lookup (adP d.at_ K) with
  | none => rw [q] at c2; cases c2
  | some o =>
    obtain ⟨oc, od, dt, osl⟩ := o
    rw [q] at c2 e
    cases dt with
    | func fd =>
      obtain ⟨n1, n2, n3, n4, n5, n6, n7, n8, n9, n10, n11, n12, n13, n14, n15⟩ := fd
      unfold DefT.val at e
      dsimp only at e c2
      simp only [Option.some.injEq, Prod.mk.injEq] at e
      obtain ⟨rfl, rfl, rfl, rfl, rfl, rfl, rfl, rfl⟩ := e
      obtain ⟨k1, k2⟩ := Bool.and_eq_true_iff.mp c2
      exact ⟨_, ⟨oc, od, n8, n9, n10, n11, n12, n13, n14, osl, rfl, q, k1, He.dflB_ok k2, .inl rfl⟩, kp⟩
    | _ => cases c2
/-! the def's promise -/
theorem fnk_of {D : Md} {d : DefT} {fd : FuncData} {k : Nat} {sp : Sp} (o : DefOk d) (F : FunD D.K d.name d.qual d.params d.body d.scope (d.dfl.map (He.Dv.v D.K)) [] (adP d.at_ D.K) fd) (h : FnOk D.P D.w D.K D.mg D.base (CX D.P D.w) k (adP d.at_ D.K) fd d.ps sp) : FnK D k (adP d.at_ D.K) d.ps (d.dfl.map dvDat) sp := by
  refine ⟨⟨fd, h, ?_⟩, F.kp⟩
  obtain ⟨oc, od, dV, kV, doc, pm, an, cdv, ct, osl, rfl, lk, hcd, hD, hK⟩ := F.ex
  obtain ⟨ds, r, b⟩ := binds_all (x := d.name) (qual := d.qual) (args := d.params.args) (defs := d.params.defaults) (body := d.body) (scope := d.scope) (kV := kV) (doc := doc) (pm := pm) (an := an) (cdv := cdv) (ct := ct) (ps := d.ps) hD rfl
  refine ⟨_, ds, r, fun g => dvs_rep o.dfl, fun sh us kw vals X hb => BindsTo.of_looks fun M => ?_⟩
  rw [o.par]
  exact b M sh.heap X us kw vals hb
theorem all2_map {α β : Type} (f : α → β) : ∀ l : List α, All2 (fun a b => b = f a) l (l.map f)
  | [] => .nil
  | a :: l => .cons rfl (all2_map f l)
theorem all2_eq {α β : Type} {f : α → β} : ∀ {l : List α} {m : List β}, All2 (fun a b => b = f a) l m → m = l.map f
  | _, _, .nil => rfl
  | _, _, .cons r t => by rw [r, all2_eq t]; rfl
theorem map_get {α : Type} (l m : List α) (d : α) : (List.range l.length).map (fun i => (l ++ m).getD i d) = l ∧ (List.range' l.length m.length).map (fun i => (l ++ m).getD i d) = m := by
  constructor
  · apply List.ext_getElem?
    intro i
    rw [List.getElem?_map]
    by_cases h : i < l.length
    · rw [List.getElem?_range h]
      simp [h, List.getElem?_append_left h]
    · rw [List.getElem?_eq_none (by simpa using h), List.getElem?_eq_none (by omega)]; rfl
  · apply List.ext_getElem?
    intro i
    rw [List.getElem?_map]
    by_cases h : i < m.length
    · rw [List.getElem?_range' (by exact h)]
      simp [h]
    · rw [List.getElem?_eq_none (by simpa using h), List.getElem?_eq_none (by omega)]; rfl
theorem pos_bind {α : Type} {ps : List Str} {us ds : List α} (h : posOk ps ds.length = true) (h1 : ps.length - ds.length ≤ us.length) (h2 : us.length ≤ ps.length) : bindAll ps us [] ds = some (us ++ ds.drop (us.length + ds.length - ps.length)) := by
  by_cases hz : us = [] ∧ ds = []
  · obtain ⟨rfl, rfl⟩ := hz
    have : ps = [] := by
      cases ps with
      | nil => rfl
      | cons _ _ => simp at h1
    subst this
    rfl
  have ex : ∃ x : α, True := by
    cases us with
    | cons a _ => exact ⟨a, trivial⟩
    | nil =>
      cases ds with
      | cons a _ => exact ⟨a, trivial⟩
      | nil => exact absurd ⟨rfl, rfl⟩ hz
  obtain ⟨x, _⟩ := ex
  unfold posOk at h
  have h3 := List.all_eq_true.mp h us.length (List.mem_range.mpr (by omega))
  simp only [h1, decide_true, Bool.not_true, Bool.false_or, beq_iff_eq] at h3
  obtain ⟨e1, e2⟩ := map_get us ds x
  obtain ⟨ws, k1, k2⟩ := bind_rel (R := fun a b => b = (us ++ ds).getD a x) (all2_map _ _) .nil (all2_map _ _) h3
  rw [e1, e2] at k1
  rw [k1, all2_eq k2, List.map_append, e1, List.map_drop, e2]
theorem FnK.fi {D : Md} {k : Nat} {fi : FnI} {ps : List Str} (F : FnK D k (fi.adr D.K) ps fi.dfl (spOf D.K ps.length fi.con)) (hp : fi.par = ps.length) (le : fi.dfl.length ≤ ps.length) (hpos : posOk ps fi.dfl.length = true) : FnIOk D k fi := by
  obtain ⟨fd, h, dvs, ds, r, rg, b⟩ := F.ex
  have hl : ds.length = fi.dfl.length := by
    rw [← r.length]
    exact (rg ⟨fun _ => none, []⟩).length
  refine ⟨by rw [hp]; exact le, fun n h1 h2 => ⟨⟨fd, ps, ?_, h, dvs.drop (n + fi.dfl.length - fi.par), ds.drop (n + fi.dfl.length - fi.par), r.drop _, fun g => Reps.drop _ (rg g), fun sh us X hu => ?_⟩, F.kp⟩⟩
  · rw [List.length_drop]; omega
  · refine b sh us [] _ X ?_
    rw [pos_bind (by rw [hl]; exact hpos) (by rw [hl, hu]; omega) (by omega), hu, hl, hp]
theorem FnK.ii {D : Md} {k : Nat} {fi : FnI} {ps : List Str} (F : FnK D k (fi.adr D.K) ps fi.dfl (spInit D.K ps.length fi.con)) (hp : fi.par = ps.length) (le : fi.dfl.length + 1 ≤ ps.length) (hpos : posOk ps fi.dfl.length = true) : InIOk D k fi := by
  obtain ⟨fd, h, dvs, ds, r, rg, b⟩ := F.ex
  have hl : ds.length = fi.dfl.length := by
    rw [← r.length]
    exact (rg ⟨fun _ => none, []⟩).length
  refine ⟨by rw [hp]; exact le, fun n h1 h2 => ⟨⟨fd, ps, ?_, h, dvs.drop (n + 1 + fi.dfl.length - fi.par), ds.drop (n + 1 + fi.dfl.length - fi.par), r.drop _, fun g => Reps.drop _ (rg g), fun sh us X hu => ?_⟩⟩⟩
  · rw [List.length_drop]; omega
  · refine b sh us [] _ X ?_
    rw [pos_bind (by rw [hl]; exact hpos) (by rw [hl, hu]; omega) (by omega), hu, hl, hp]
/-! ### defs that say super().__init__() first -/
/-- the def, its class, the class whose __init__ runs by the object's class, the module's file -/
structure SupT where
  d : DefT
  cls : Str
  tab : List (Str × Str)
  file : Str
def supHead : List Stmt → Bool
  | .Expr (.Call (.Attribute (.Call (.Name n _) [] [] _) m p2) [] [] p3) _ :: _ => decide (n = "super") && decide (m = "__init__") && (p2.endLine == p3.line)
  | _ => false
theorem supHead_ok {l : List Stmt} (h : supHead l = true) : ∃ p0 p1 p2 p3 p4, l = .Expr (.Call (.Attribute (.Call (.Name "super" p0) [] [] p1) "__init__" p2) [] [] p3) p4 :: l.tail ∧ (p2.endLine == p3.line) = true := by
  unfold supHead at h
  split at h
  · rename_i n p0 p1 m p2 p3 p4 r
    simp only [Bool.and_eq_true, decide_eq_true_eq] at h
    obtain ⟨⟨rfl, rfl⟩, h3⟩ := h
    exact ⟨p0, p1, p2, p3, p4, rfl, h3⟩
  · cases h
def SupT.okT (s : SupT) : Bool := plainPar s.d.params && isFnKind s.d.scope.kind && !s.d.scope.isCoroutine && !s.d.scope.isGenerator && decide s.d.N.Nodup && decide (s.d.N.take s.d.ps.length = s.d.ps) &&
  (s.d.ps.all fun x => isLocal s.d.scope x) && (s.d.scope.names.all fun y => !(y.2 == .cell)) && (s.d.scope.names.all fun y => !(y.2 == .free) || decide (y.1 = "__class__")) && decide (s.d.scope.names.lookup ("super" : Str) = some .globalImplicit) && decide (s.d.scope.names.lookup ("__class__" : Str) = some .free) &&
  s.d.dfl.all dvOk && posOk s.d.ps s.d.dfl.length && decide (s.d.dfl.length + 1 ≤ s.d.ps.length) && supHead s.d.body && s.d.tab.isNone
structure SupOk (s : SupT) : Prop where
  par : s.d.params = ⟨[], s.d.params.args, none, [], [], none, s.d.params.defaults⟩
  sc : SupScope s.d.N s.d.ps s.d.scope
  dfl : s.d.dfl.all dvOk = true
  pos : posOk s.d.ps s.d.dfl.length = true
  ini : s.d.dfl.length + 1 ≤ s.d.ps.length
  len : s.d.ps.length ≤ s.d.N.length
  hd : supHead s.d.body = true
  tab : s.d.tab = none
theorem SupT.ok_of {s : SupT} (h : s.okT = true) : SupOk s := by
  unfold SupT.okT at h
  simp only [Bool.and_eq_true, decide_eq_true_eq] at h
  obtain ⟨⟨⟨⟨⟨⟨⟨⟨⟨⟨⟨⟨⟨⟨⟨h1, h2⟩, h3⟩, h4⟩, h5⟩, h6⟩, h7⟩, h8⟩, h9⟩, h10⟩, h11⟩, h12⟩, h13⟩, h14⟩, h15⟩, h16⟩ := h
  refine ⟨plainPar_ok h1, ⟨?_, by simpa using h3, by simpa using h4, h5, h6, fun x hx => isLocal_ok (List.all_eq_true.mp h7 x hx), fun y hy => ?_, fun x hx => ?_, h10, h11⟩, h12, h13, h14, ?_, h15, by simpa using h16⟩
  · revert h2
    cases s.d.scope.kind <;> intro h2 <;> first | rfl | cases h2
  · have := List.all_eq_true.mp h8 y hy
    simpa using this
  · have := List.all_eq_true.mp h9 _ (PySem.mem_of_lookup hx)
    simpa using this
  · have := congrArg List.length h6
    rw [List.length_take] at this
    omega
def obsS (K : PySem.W.Frag) (f : Addr) : FnWT := match K.lookup f with
  | some ⟨_, _, .func fd, _⟩ => some (fd.name, fd.qualname, fd.params, fd.body, fd.scope, fd.globals, fd.closure.map (fun p => (p.1, 0)), fd.builtins)
  | _ => none
def SupT.val (s : SupT) : FnWT := some (s.d.name, s.d.qual, s.d.params, .stmts s.d.body, s.d.scope, mainGlobals, [("__class__", 0)], builtinsNs)
/-- the module's cell and code behind it -/
def supCode (K : PySem.W.Frag) (c : Str) (file : Str) (fd : FuncData) : Bool := (match fd.closure with
    | [(_, cc)] => (match K.lookup cc with
      | some ⟨_, _, .cell (some (.ref D)), _⟩ => decide (D = He.ga K c)
      | _ => false)
    | _ => false) && (match fd.code with
    | .ref cda => (match K.lookup cda with
      | some ⟨_, _, .fields vs, _⟩ => (match (vs : Array Value)[2]? with
        | some (Value.str fl _) => fl == file
        | _ => false)
      | _ => false)
    | _ => false)
def supFn (K : PySem.W.Frag) (c : Str) (file : Str) (f : Addr) : Bool := match K.lookup f with
  | some ⟨_, _, .func fd, _⟩ => supCode K c file fd
  | _ => false
theorem sup_of {K : PySem.W.Frag} {P : Program} {mg : Str → Option Value} {s : SupT} {slf0 : Str} (o : SupOk s) (e : obsS K (adP s.d.at_ K) = s.val) (c : fnB K (adP s.d.at_ K) s.d.qual s.d.dfl = true) (c3 : supFn K s.cls s.file (adP s.d.at_ K) = true)
    (hcl : (PySem.W.clsIn K (He.ga K s.cls)).isSome = true) (hmg : mg "super" = none) (hop : PySem.W.nsIn K cStatics "thirdparty.any" = some none) (hfile : ((P.main.file : Str) == s.file) = true) (htop : (P.main.scope.names.lookup ("super" : Str)).isSome = false) (h0 : s.d.ps[0]? = some slf0) :
    ∃ (oc : Value) (od : Option Addr) (dV kV doc pm : Value) (an : Option Addr) (cdv ct : Value) (osl : Array (Option Value)) (cc : Addr), K.lookup (adP s.d.at_ K) = some ⟨oc, od, .func (PySem.W.fnX s.d.name s.d.qual s.d.params s.d.body s.d.scope [("__class__", cc)] dV kV doc pm an cdv ct), osl⟩ ∧ PySem.W.codeIn K cdv s.d.qual = true ∧ DflV K dV (s.d.dfl.map (He.Dv.v K)) ∧ PySem.W.keepIn K (.ref (adP s.d.at_ K)) = true ∧
      SupAt P K mg (adP s.d.at_ K) cc (He.ga K s.cls) (PySem.W.fnX s.d.name s.d.qual s.d.params s.d.body s.d.scope [("__class__", cc)] dV kV doc pm an cdv ct) slf0 cdv := by
  obtain ⟨kp, c2⟩ := Bool.and_eq_true_iff.mp c
  unfold obsS at e
  unfold supFn at c3
  cases q : K.lookup (adP s.d.at_ K) with
  | none => rw [q] at c2; cases c2
  | some o' =>
    obtain ⟨oc, od, dt, osl⟩ := o'
    rw [q] at c2 e c3
    cases dt with
    | func fd =>
      obtain ⟨n1, n2, n3, n4, n5, n6, n7, n8, n9, n10, n11, n12, n13, n14, n15⟩ := fd
      unfold SupT.val at e
      unfold supCode at c3
      dsimp only at e c2 c3
      simp only [Option.some.injEq, Prod.mk.injEq] at e
      obtain ⟨rfl, rfl, rfl, rfl, rfl, rfl, e7, rfl⟩ := e
      obtain ⟨k1, k2⟩ := Bool.and_eq_true_iff.mp c2
      obtain ⟨y1, y2⟩ := Bool.and_eq_true_iff.mp c3
      split at y1
      · rename_i _ nm cc
        have hn : nm = "__class__" := by
          simp only [List.map_cons, List.map_nil, List.cons.injEq, Prod.mk.injEq, and_true] at e7
          exact e7
        subst hn
        split at y1
        · rename_i cl cld Dc csl lcc
          have hDc := of_decide_eq_true y1
          split at y2
          · rename_i _ cda
            split at y2
            · rename_i ccl cdd vs ccs lcda
              split at y2
              · rename_i fl tf hfl
                obtain ⟨cdD, hcD⟩ := Option.isSome_iff_exists.mp hcl
                subst hDc
                have hps : ∃ ar : Arg, (s.d.params.posonlyargs ++ s.d.params.args).head? = some ar ∧ ar.arg = slf0 := by
                  have e1 : s.d.params.posonlyargs = [] := by rw [o.par]
                  rw [e1, List.nil_append]
                  unfold DefT.ps at h0
                  rw [List.getElem?_map] at h0
                  obtain ⟨ar, h1, h2⟩ := Option.map_eq_some_iff.mp h0
                  exact ⟨ar, by rw [List.head?_eq_getElem?]; exact h1, h2⟩
                refine ⟨oc, od, n8, n9, n10, n11, n12, _, n14, osl, cc, ?_, k1, He.dflB_ok k2, kp, ⟨⟨oc, od, osl, ?_⟩, hps, ⟨cda, ccl, cdd, vs, ccs, fl, tf, rfl, lcda, hfl, by rw [beq_iff_eq] at y2 hfile ⊢; rw [y2]; exact hfile⟩, ⟨cl, cld, csl, lcc⟩, ⟨cdD, hcD⟩, htop, hmg, hop⟩⟩
                · first | exact q | rfl
                · first | exact q | rfl
              · cases y2
            · cases y2
          · cases y2
        · cases y1
      · cases y1
    | _ => cases c2
theorem fnk_ofS {D : Md} {s : SupT} {k : Nat} {sp : Sp} {dV kV doc pm cdv ct : Value} {an : Option Addr} {cl : List (Str × Addr)} (o : SupOk s) (hD : DflV D.K dV (s.d.dfl.map (He.Dv.v D.K))) (kp : PySem.W.keepIn D.K (.ref (adP s.d.at_ D.K)) = true) (h : FnOk D.P D.w D.K D.mg D.base (CX D.P D.w) k (adP s.d.at_ D.K) (PySem.W.fnX s.d.name s.d.qual s.d.params s.d.body s.d.scope cl dV kV doc pm an cdv ct) s.d.ps sp) : FnK D k (adP s.d.at_ D.K) s.d.ps (s.d.dfl.map dvDat) sp := by
  refine ⟨⟨_, h, ?_⟩, kp⟩
  obtain ⟨ds, r, b⟩ := binds_all (x := s.d.name) (qual := s.d.qual) (args := s.d.params.args) (defs := s.d.params.defaults) (body := s.d.body) (scope := s.d.scope) (kV := kV) (doc := doc) (pm := pm) (an := an) (cdv := cdv) (ct := ct) (ps := s.d.ps) hD rfl
  refine ⟨_, ds, r, fun g => dvs_rep o.dfl, fun sh us kw vals X hb => BindsTo.of_looks fun M => ?_⟩
  rw [o.par]
  exact b M sh.heap X us kw vals hb
end Zw

namespace Zw
open PySem L2 PyProof.Rows PySem.Spec ClX
/-- an exception class: its fields, its __init__ (a def), the classes that it is below -/
structure ExT where
  qs : List Str
  ini : Option DefT
  sup : List Str
/-- the text: its defs, classes, the class's __init__ by its def's key, the module's names that are values, built-in names, defs of the module; tuples of the module, exceptions, the defs that make lambdas -/
structure TextT where
  defs : List DefT
  cls : List (Str × ClsI)
  inis : List (Str × Str)
  glo : List (Str × He.Dv)
  free : List Str
  tops : List Str
  fuel : Nat
  tups : List (Str × List He.Dv)
  exs : List (Str × ExT)
  tabs : List (Str × Option Str)
  sups : List SupT
def ExT.xi (x : ExT) : ExI := ⟨x.qs, x.ini.map fun d => adP d.at_, x.sup⟩
def lamQ (q : Str) : Str := q ++ ".<locals>." ++ "<lambda>"
namespace TextT
variable (T : TextT)
def dOf (q : Str) : Option DefT := T.defs.find? fun d => decide (d.key = q)
def fiOf (c : DefT → Con) (d : DefT) : FnI := ⟨c d, d.ps.length, d.dfl.map dvDat, adP d.at_, d.ps⟩
def fnF (c : DefT → Con) (q : Str) : Option FnI := match T.dOf q with
  | some d => if d.ini = true then none else some (fiOf c d)
  | none => none
def sOf (q : Str) : Option SupT := T.sups.find? fun s => decide (s.d.key = q)
def fiS (c : SupT → Con) (s : SupT) : FnI := ⟨c s, s.d.ps.length, s.d.dfl.map dvDat, adP s.d.at_, s.d.ps⟩
def iniF (c : DefT → Con) (c' : SupT → Con) (x : Str) : Option FnI := match T.inis.lookup x with
  | some q => (match T.dOf q with
    | some d => if d.ini = true then some (fiOf c d) else none
    | none => (match T.sOf q with
      | some s => some (fiS c' s)
      | none => none))
  | none => none
def gloF (x : Str) : Option Dat := match T.glo.lookup x with
  | some v => some (dvDat v)
  | none => (match T.tups.lookup x with
    | some vs => some (.tup (vs.map dvDat))
    | none => if (T.exs.lookup x).isSome = true then some (.cls x) else none)
abbrev LC : Type := (DefT → LCon → List (Option Dat) → Res) × (SupT → Con)
def lamF (cl : LC) (x : Str) : Option LamI := match T.dOf x with
  | some d => if d.lam = true ∧ d.ini = false then some ⟨cl.1 d, adP d.at_⟩ else none
  | none => none
def enOf (c : DefT → Con) (cl : LC) : En where
  fn := T.fnF c
  ini := T.iniF c cl.2
  cl := fun x => T.cls.lookup x
  glo := T.gloF
  free := fun x => T.free.contains x
  top := fun x => T.tops.contains x
  ex := fun x => (T.exs.lookup x).map ExT.xi
  lamf := T.lamF cl
def ccOf (E : En) (EL : Option En) (d : DefT) : Cc := ⟨E, d.N, d.cell, d.own, match EL with
  | none => none
  | some _ => d.tab.map fun n => (n, d.at_, lamQ d.qual)⟩
noncomputable def bodyOf (E : En) (EL : Option En) (d : DefT) : MS := (comp EL (ccOf E EL d) T.fuel).cB d.scope d.body
noncomputable def conOf (E : En) (EL : Option En) (d : DefT) : Con := if d.ini = true then runIn d.ps.length d.N.length (T.bodyOf E EL d) else runFn d.ps.length d.N.length (T.bodyOf E EL d)
noncomputable def supB' (E : En) (EL : Option En) (s : SupT) : MS := seqS (superS E s.tab) ((comp EL (ccOf E EL s.d) T.fuel).cB s.d.scope s.d.body.tail)
noncomputable def lamOf (E : En) (EL : Option En) : LC := (fun d lc cs => endFn (T.bodyOf E EL d ⟨.lam lc :: List.replicate (d.N.length - 1) .unset, cs⟩), fun s => runIn s.d.ps.length s.d.N.length (T.supB' E EL s))
noncomputable def en2 : Nat → En × Option En
  | 0 => (T.enOf (fun _ _ _ => .stuck) (fun _ _ _ => .stuck, fun _ _ _ => .stuck), none)
  | k + 1 => (T.enOf (T.conOf (en2 k).1 (en2 k).2) (T.lamOf (en2 k).1 (en2 k).2), some (en2 k).1)
noncomputable def en (k : Nat) : En := (T.en2 k).1
noncomputable def el (k : Nat) : Option En := (T.en2 k).2
/-- the cells at the start: the tables -/
def cs0 : List (Option Dat) := T.tabs.map fun p => match T.defs.find? (fun d => decide (d.at_ = p)) with
  | some d => some (.tab p (lamQ d.qual))
  | none => none
/-! checks -/
def datDv : Dat → Option He.Dv
  | .non => some .non
  | .bl b => some (.bl b)
  | .int i => some (.int i)
  | .str x => some (.str x)
  | _ => none
abbrev tyT : Value := .type "type"
def readB (K : PySem.W.Frag) (C : Addr) : Bool := PySem.W.readsIn K C tyT && He.eqO (PySem.W.specialIn K (.ref C) "__getattribute__") (some (some (.builtin "type.__getattribute__")))
/-- the record's function behind C.f -/
def recB (K : PySem.W.Frag) (C : Addr) (f : Str) (id ty : String) (g : Addr) : Bool := match PySem.W.findCls K (.ref C) tyT f with
  | some (.get (.builtin i) (.ref p) .none (.ref C')) => decide (i = id) && decide (C' = C) && (match PySem.W.recIn K p ty with
    | some (.ref g' :: _) => decide (g' = g)
    | _ => false)
  | _ => false
def attB (K : PySem.W.Frag) (c f : Str) : Att → Bool
  | .meth q => (match T.dOf q with
    | some d => !d.ini && He.eqO (PySem.W.findIn K (.ref (He.ga K c)) f) (some (some (.ref (adP d.at_ K)))) && PySem.W.isFn K (.ref (adP d.at_ K)) && PySem.W.keepIn K (.ref (adP d.at_ K))
    | none => false)
  | .prop q => (match T.dOf q with
    | some d => !d.ini && (match PySem.W.findIn K (.ref (He.ga K c)) f with
      | some (some (.ref p)) => He.eqO (PySem.W.specialIn K (.ref p) "__get__") (some (some (.builtin "property.__get__"))) && decide (PySem.W.takesIn K (.ref p) = some true) && (match PySem.W.recIn K p "property" with
        | some (.ref g :: _) => decide (g = adP d.at_ K)
        | _ => false)
      | _ => false)
    | none => false)
  | .dflt => decide (f ∈ (["__eq__", "__ne__", "__lt__", "__le__", "__gt__", "__ge__"] : List Str)) && He.eqO (PySem.W.findIn K (.ref (He.ga K c)) f) (some (some (.builtin (dfltId f))))
  | .con d => (match datDv d with
    | some v => He.conB K c f v && !PySem.W.copiedNames.contains f
    | none => false)
  | .stat q => (match T.dOf q with
    | some d => !d.ini && readB K (He.ga K c) && recB K (He.ga K c) f "staticmethod.__get__" "staticmethod" (adP d.at_ K)
    | none => false)
  | .clsm q => (match T.dOf q with
    | some d => !d.ini && readB K (He.ga K c) && recB K (He.ga K c) f "classmethod.__get__" "classmethod" (adP d.at_ K) && PySem.W.fnIn K (adP d.at_ K)
    | none => false)
def opB (K : PySem.W.Frag) (c : Str) (nm : String) : Bool := match PySem.W.findIn K (.ref (He.ga K c)) (dunderR nm) with
  | some none => true
  | some (some (.ref _)) => true
  | _ => false
def moreB (K : PySem.W.Frag) (c : Str) (ci : ClsI) : Bool := He.eqO (PySem.W.findIn K (.ref (He.ga K c)) "__class__") (some (some (.builtin "object.__class__"))) && decide (PySem.W.mroIn K (He.ga K c) (.type "object") = some true) &&
  ((PySem.W.clsIn K (He.ga K c)).isSome && PySem.W.typeIn K (.ref (He.ga K c)) == some (.type "type")) && (T.cls.all fun p => decide (PySem.W.subIn K (.ref (He.ga K c)) (.ref (He.ga K p.1)) = some (decide (p.1 ∈ ci.sup)))) &&
  (T.cls.all fun p => decide (c = p.1) || !decide (He.ga K c = He.ga K p.1)) && (plainTys.all fun t => decide (PySem.W.subIn K (.ref (He.ga K c)) (.type t) = some false) && decide (PySem.W.subIn K (.type t) (.ref (He.ga K c)) = some false)) &&
  (opNames.all fun nm => opB K c nm) && PySem.W.noSeq K (He.ga K c) && (!ci.ip || opNames.all fun nm => noInp K (He.ga K c) nm) && He.eqO (PySem.W.findIn K (.ref (He.ga K c)) "__format__") (some (some (.builtin "object.__format__")))
def clsB (K : PySem.W.Frag) (c : Str) (ci : ClsI) : Bool := (He.Fa.cls c).ok K && (He.Fa.glo c).ok K && PySem.W.selfFirst K (He.ga K c) && (ci.flds.all fun f => (He.Fa.noat c f).ok K) && (ci.att.all fun p => T.attB K c p.1 p.2) && T.moreB K c ci
def smB (K : PySem.W.Frag) : Bool := match K.lookup sysModules with
  | some o => (match o.data with
    | .dict _ _ => true
    | _ => false)
  | none => false
def tyB (K : PySem.W.Frag) : Bool := smB K && He.eqO (PySem.W.specialIn K (.builtin "object.__class__") "__get__") (some (some (.builtin "getset_descriptor.__get__"))) && decide (PySem.W.takesIn K (.builtin "object.__class__") = some true) && (opNames.all fun nm => (PySem.W.findIn K (.type "int") (dunder nm)).isSome && (PySem.W.findIn K (.type "int") (dunderR nm)).isSome)
def iniAtB (K : PySem.W.Frag) (c : Str) (f : Addr) : Bool := PySem.W.makesIn K (He.ga K c) && He.eqO (PySem.W.findIn K (.ref (He.ga K c)) "__init__") (some (some (.ref f))) && PySem.W.isFn K (.ref f) && PySem.W.keepIn K (.ref (He.ga K c))
def iniB (K : PySem.W.Frag) (c q : Str) : Bool := match T.dOf q with
  | some d => d.ini && iniAtB K c (adP d.at_ K)
  | none => (match T.sOf q with
    | some s => iniAtB K c (adP s.d.at_ K)
    | none => false)
/-- where a class's __init__ lies -/
def iniAt (K : PySem.W.Frag) (p : Str) : Option Addr := match T.inis.lookup p with
  | some q => (match T.dOf q with
    | some d => some (adP d.at_ K)
    | none => (T.sOf q).map fun s => adP s.d.at_ K)
  | none => none
def supTab (K : PySem.W.Frag) (D c p : Str) : Bool := match T.iniAt K p with
  | some a => decide (PySem.W.mroIn K (He.ga K c) (.ref (He.ga K D)) = some true) && He.eqO (PySem.W.ks_superIn K (He.ga K c) (He.ga K D) "__init__") (some (some (.ref a))) && PySem.W.fnIn K a && decide (PySem.W.typeIn K (.ref a) = some (.type "function"))
  | none => false
def supB (K : PySem.W.Frag) (s : SupT) : Bool := fnB K (adP s.d.at_ K) s.d.qual s.d.dfl && supFn K s.cls s.file (adP s.d.at_ K) && (PySem.W.clsIn K (He.ga K s.cls)).isSome && (He.Fa.free "super").ok K && He.eqO (PySem.W.nsIn K cStatics "thirdparty.any") (some none) && s.tab.all fun p => T.supTab K s.cls p.1 p.2
def gloB (K : PySem.W.Frag) (x : Str) (v : He.Dv) : Bool := dvOk v && (match PySem.W.nsIn K mainGlobals x with
  | some (some u) => He.relB (v.v K) u
  | _ => false)
def topB (K : PySem.W.Frag) (x : Str) : Bool := match T.dOf x with
  | some d => He.eqO (PySem.W.nsIn K mainGlobals x) (some (some (.ref (adP d.at_ K))))
  | none => false
def tupB (K : PySem.W.Frag) (x : Str) (vs : List He.Dv) : Bool := vs.all dvOk && He.tupB K x vs && (He.Fa.glo x).ok K
/-- exceptions -/
def oexB (K : PySem.W.Frag) (C : Addr) : Bool := (match K.lookup C with
  | some ⟨.type ty, _, .cls cd, sl⟩ => decide (ty = "type") && (match cd.mro, sl.toList with
    | .ref C' :: bm, [_, _, _, _, some (.builtin n), _] => decide (C' = C) && decide (n = "ValueError.__new__") && !cd.hasDel && cd.hasDict && PySem.HandSPX.refsVE bm
    | _, _ => false)
  | _ => false) && He.eqO (PySem.W.findIn K (.ref C) "__setattr__") (some (some (.builtin "object.__setattr__")))
def mkB (K : PySem.W.Frag) (c : Str) (x : ExT) : Bool := match x.ini with
  | none => x.qs.isEmpty && PySem.W.excIn K (He.ga K c) veB "ValueError.__new__"
  | some d => !x.qs.isEmpty && decide (x.qs.length ≤ 900) && oexB K (He.ga K c) && He.eqO (PySem.W.findIn K (.ref (He.ga K c)) "__init__") (some (some (.ref (adP d.at_ K)))) && decide (PySem.W.typeIn K (.ref (adP d.at_ K)) = some (.type "function")) && fnB K (adP d.at_ K) d.qual d.dfl
def exB (K : PySem.W.Frag) (c : Str) (x : ExT) : Bool := (He.Fa.glo c).ok K && PySem.W.keepIn K (.ref (He.ga K c)) &&
  He.eqO (PySem.W.findIn K (.ref (He.ga K c)) "__getattribute__") (some (some (.builtin "BaseException.__getattribute__"))) && He.eqO (PySem.W.findIn K (.ref (He.ga K c)) "__getattr__") (some none) &&
  decide (PySem.W.subIn K (.ref (He.ga K c)) (.type "BaseException") = some true) && PySem.W.hasDictIn K (He.ga K c) && He.eqO (PySem.W.findIn K (.ref (He.ga K c)) "__class__") (some (some (.builtin "object.__class__"))) && decide (PySem.W.mroIn K (He.ga K c) (.type "object") = some true) &&
  decide (PySem.W.typeIn K (.ref (He.ga K c)) = some (.type "type")) && decide (PySem.W.subIn K (.ref (He.ga K c)) (.type "ValueError") = some true) &&
  (T.exs.all fun p => decide (PySem.W.subIn K (.ref (He.ga K c)) (.ref (He.ga K p.1)) = some (decide (p.1 ∈ x.sup)))) &&
  (T.cls.all fun p => decide (PySem.W.subIn K (.ref (He.ga K c)) (.ref (He.ga K p.1)) = some false) && decide (PySem.W.subIn K (.ref (He.ga K p.1)) (.ref (He.ga K c)) = some false)) &&
  (plainTys.all fun t => decide (PySem.W.subIn K (.ref (He.ga K c)) (.type t) = some false) && decide (PySem.W.subIn K (.type t) (.ref (He.ga K c)) = some false)) &&
  (x.qs.all fun f => He.eqO (PySem.W.findIn K (.ref (He.ga K c)) f) (some none)) && decide (c ∈ x.sup) && mkB K c x
/-- tables of code objects -/
def tabB (K : PySem.W.Frag) (p : Str × Option Str) : Bool := PySem.W.codeHdIn K (codeP p K) (tabP p K)
/-- what the head's part of the heap must show -/
def okK (K : PySem.W.Frag) : Bool := (T.sups.all fun s => T.supB K s) && (T.tups.all fun p => tupB K p.1 p.2) && (T.exs.all fun p => T.exB K p.1 p.2) && (T.tabs.all fun p => tabB K p) && (T.defs.all fun d => fnB K (adP d.at_ K) d.qual d.dfl) && (T.cls.all fun p => T.clsB K p.1 p.2) && (T.inis.all fun p => T.iniB K p.1 p.2) && tyB K && (T.glo.all fun p => gloB K p.1 p.2) && (T.free.all fun x => (He.Fa.free x).ok K) && T.tops.all fun x => T.topB K x
/-- .. and the text itself -/
def exTB (x : ExT) : Bool := match x.ini with
  | none => true
  | some d => d.okT && d.dfl.isEmpty && (match d.ps with
    | [] => false
    | s0 :: qs => decide (qs = x.qs) && okNm s0 && xiB s0 qs d.body)
/-- a def that makes lambdas: its cell -/
def tabTB (d : DefT) : Bool := match d.tab with
  | none => true
  | some n => decide (T.tabs[n]? = some d.at_) && decide ((T.defs.find? fun e => decide (e.at_ = d.at_)).map (·.qual) = some d.qual)
def okT : Bool := (T.sups.all fun s => s.okT) && (T.defs.all fun d => d.okT) && (T.exs.all fun p => exTB p.2) && (T.defs.all fun d => T.tabTB d) && (T.defs.all fun d => !d.lam || (decide (d.ps.length = 1) && d.dfl.isEmpty)) && decide (T.tabs.Nodup)
/-! the hook -/
abbrev Al : Type := Bool × List FnWT
def xdefs : List DefT := T.defs ++ T.exs.filterMap fun p => p.2.ini
def obs (K : PySem.W.Frag) : Al := (T.okK K, (T.xdefs.map fun d => obsF K (adP d.at_ K)) ++ T.sups.map fun s => obsS K (adP s.d.at_ K))
def val : Al := (true, T.xdefs.map DefT.val ++ T.sups.map SupT.val)
/-- .. besides: the tables are empty, and not among K -/
def obsG (n : List Addr) (g : Addr → Option Obj) : Al :=
  let K := He.frT g (cStatics :: sysModules :: n)
  ((T.obs K).1 && (T.tabs.all fun p => match g (tabP p K) with
    | some o => He.emptyTab o
    | none => false) && decide ((T.tabs.map fun p => tabP p K).Nodup), (T.obs K).2)
def Says (h : Heap) : Prop := ∃ K : PySem.W.Frag, K.In h ∧ T.obs K = T.val ∧ (∀ p ∈ T.tabs, h.get? (tabP p K) = some { cls := .none, data := .fields #[] } ∧ K.lookup (tabP p K) = none) ∧ (T.tabs.map fun p => tabP p K).Nodup
def hook (n : List Addr) : PySem.W.Hook where
  α := Al
  obs := fun s => T.obsG n s.heap.get?
  val := fun _ => T.val
  says := fun _ h => T.Says h
  of := fun _ s e => by
    have e1 : ((T.obs (He.frT s.heap.get? (cStatics :: sysModules :: n))).1 && (T.tabs.all fun p => match s.heap.get? (tabP p (He.frT s.heap.get? (cStatics :: sysModules :: n))) with
      | some o => He.emptyTab o
      | none => false) && decide ((T.tabs.map fun p => tabP p (He.frT s.heap.get? (cStatics :: sysModules :: n))).Nodup)) = true := congrArg Prod.fst e
    have e2 : (T.obs (He.frT s.heap.get? (cStatics :: sysModules :: n))).2 = T.xdefs.map DefT.val ++ T.sups.map SupT.val := congrArg Prod.snd e
    simp only [Bool.and_eq_true] at e1
    obtain ⟨⟨k1, k2⟩, k3⟩ := e1
    refine ⟨_, He.frT_in, Prod.ext k1 e2, fun p hp => ?_, of_decide_eq_true k3⟩
    have k4 := List.all_eq_true.mp k2 p hp
    split at k4
    · rename_i o ho
      exact ⟨by rw [ho, He.emptyTab_eq k4], He.frT_none ho k4⟩
    · cases k4
  keeps := fun _ _ _ ⟨K, hK, c, ht, hn⟩ k => ⟨K, PySem.W.Frag.In.keeps hK k, c, fun p hp => ⟨k _ _ (ht p hp).1, (ht p hp).2⟩, hn⟩
theorem obsG_eq {n : List Addr} {g : Addr → Option Obj} {s : Shared} (h : ∀ a, g a = s.heap.get? a) : T.obsG n g = (T.hook n).obs s := by
  have e : g = s.heap.get? := funext h
  subst e
  rfl
end TextT
section
variable {T : TextT} {D : Md}
theorem dOf_mem {q : Str} {d : DefT} (h : T.dOf q = some d) : d ∈ T.defs := List.mem_of_find?_eq_some h
theorem lookup_in {α : Type} {l : List (Str × α)} {x : Str} {a : α} (h : l.lookup x = some a) : (x, a) ∈ l := by
  induction l with
  | nil => cases h
  | cons p l ih =>
    obtain ⟨y, b⟩ := p
    rw [List.lookup_cons] at h
    cases e : (x == y) with
    | true =>
      rw [e] at h; cases h
      rw [beq_iff_eq.mp e]
      exact List.mem_cons_self
    | false => rw [e] at h; exact List.mem_cons_of_mem _ (ih h)
/-- the program around it -/
def supP (P : Program) (s : SupT) : Bool := ((P.main.file : Str) == s.file) && !(P.main.scope.names.lookup ("super" : Str)).isSome
/-- what the head told -/
structure TOk (T : TextT) (D : Md) : Prop where
  k : T.okK D.K = true
  f : T.xdefs.map (fun d => obsF D.K (adP d.at_ D.K)) = T.xdefs.map DefT.val
  fs : T.sups.map (fun s => obsS D.K (adP s.d.at_ D.K)) = T.sups.map SupT.val
  t : T.okT = true
  sp : (T.sups.all fun s => supP D.P s) = true
  kin : ∃ h : Heap, D.K.In h ∧ h.Ns mainGlobals D.mg
  tb : ∀ p ∈ T.tabs, LamX.TabB D.base D.mg (codeP p D.K) (tabP p D.K)
theorem TOk.obs_ (o : TOk T D) {d : DefT} (h : d ∈ T.xdefs) : obsF D.K (adP d.at_ D.K) = d.val := by
  obtain ⟨i, hi, e⟩ := List.mem_iff_getElem.mp h
  have e1 : T.xdefs[i]? = some d := by rw [List.getElem?_eq_getElem hi, e]
  have e2 : (T.xdefs.map fun d => obsF D.K (adP d.at_ D.K))[i]? = (T.xdefs.map DefT.val)[i]? := by rw [o.f]
  rw [List.getElem?_map, List.getElem?_map, e1] at e2
  exact Option.some.inj e2
theorem TOk.obsS_ (o : TOk T D) {s : SupT} (h : s ∈ T.sups) : obsS D.K (adP s.d.at_ D.K) = s.val := by
  obtain ⟨i, hi, e⟩ := List.mem_iff_getElem.mp h
  have e1 : T.sups[i]? = some s := by rw [List.getElem?_eq_getElem hi, e]
  have e2 : (T.sups.map fun s => obsS D.K (adP s.d.at_ D.K))[i]? = (T.sups.map SupT.val)[i]? := by rw [o.fs]
  rw [List.getElem?_map, List.getElem?_map, e1] at e2
  exact Option.some.inj e2
structure TT (T : TextT) : Prop where
  sups : ∀ s ∈ T.sups, SupOk s
  defs : ∀ d ∈ T.defs, DefOk d
  exs : ∀ p ∈ T.exs, TextT.exTB p.2 = true
  tab : ∀ d ∈ T.defs, T.tabTB d = true
  lam : ∀ d ∈ T.defs, d.lam = true → d.ps.length = 1 ∧ d.dfl = []
  tnd : T.tabs.Nodup
theorem tt_of (h : T.okT = true) : TT T := by
  unfold TextT.okT at h
  simp only [Bool.and_eq_true] at h
  obtain ⟨⟨⟨⟨⟨h0, h1⟩, h2⟩, h3⟩, h4⟩, h5⟩ := h
  refine ⟨fun s hs => SupT.ok_of (List.all_eq_true.mp h0 s hs), fun d hd => DefT.ok_of (List.all_eq_true.mp h1 d hd), fun p hp => List.all_eq_true.mp h2 p hp, fun d hd => List.all_eq_true.mp h3 d hd, fun d hd hl => ?_, of_decide_eq_true h5⟩
  have := List.all_eq_true.mp h4 d hd
  rw [hl] at this
  simpa using this
structure KK (T : TextT) (K : PySem.W.Frag) : Prop where
  sup : ∀ s ∈ T.sups, T.supB K s = true
  tup : ∀ p ∈ T.tups, TextT.tupB K p.1 p.2 = true
  exs : ∀ p ∈ T.exs, T.exB K p.1 p.2 = true
  tab : ∀ p ∈ T.tabs, TextT.tabB K p = true
  fn : ∀ d ∈ T.defs, fnB K (adP d.at_ K) d.qual d.dfl = true
  cls : ∀ p ∈ T.cls, T.clsB K p.1 p.2 = true
  ini : ∀ p ∈ T.inis, T.iniB K p.1 p.2 = true
  ty : TextT.tyB K = true
  glo : ∀ p ∈ T.glo, TextT.gloB K p.1 p.2 = true
  free : ∀ x ∈ T.free, (He.Fa.free x).ok K = true
  top : ∀ x ∈ T.tops, T.topB K x = true
theorem TOk.kk (o : TOk T D) : KK T D.K := by
  have k := o.k
  unfold TextT.okK at k
  simp only [Bool.and_eq_true] at k
  obtain ⟨⟨⟨⟨⟨⟨⟨⟨⟨⟨k0, k1⟩, k2⟩, k3⟩, k4⟩, k5⟩, k6⟩, k7⟩, k8⟩, k9⟩, k10⟩ := k
  exact ⟨List.all_eq_true.mp k0, List.all_eq_true.mp k1, List.all_eq_true.mp k2, List.all_eq_true.mp k3, List.all_eq_true.mp k4, List.all_eq_true.mp k5, List.all_eq_true.mp k6, k7, List.all_eq_true.mp k8, List.all_eq_true.mp k9, List.all_eq_true.mp k10⟩
theorem TOk.fun_ (o : TOk T D) {d : DefT} (h : d ∈ T.defs) : DefOk d ∧ ∃ fd, FunD D.K d.name d.qual d.params d.body d.scope (d.dfl.map (He.Dv.v D.K)) [] (adP d.at_ D.K) fd :=
  ⟨(tt_of o.t).defs d h, fun_of (o.obs_ (List.mem_append_left _ h)) (o.kk.fn d h)⟩
theorem fnF_some {c : DefT → Con} {q : Str} {fi : FnI} (h : T.fnF c q = some fi) : ∃ d, T.dOf q = some d ∧ d.ini = false ∧ fi = TextT.fiOf c d := by
  unfold TextT.fnF at h
  cases e : T.dOf q with
  | none => rw [e] at h; cases h
  | some d =>
    rw [e] at h
    dsimp only at h
    by_cases z : d.ini = true
    · rw [if_pos z] at h; cases h
    · rw [if_neg z] at h; cases h
      exact ⟨d, rfl, by simpa using z, rfl⟩
theorem fnF_of {c : DefT → Con} {q : Str} {d : DefT} (h : T.dOf q = some d) (hi : d.ini = false) : T.fnF c q = some (TextT.fiOf c d) := by
  unfold TextT.fnF
  rw [h]
  simp [hi]
theorem att_of (o : TOk T D) {c : DefT → Con} {cl : TextT.LC} {x f : Str} {a : Att} (h : T.attB D.K x f a = true) : AttOk D (T.enOf c cl) x f a := by
  cases a with
  | meth q =>
    unfold TextT.attB at h
    dsimp only at h
    split at h
    · rename_i d e
      simp only [Bool.and_eq_true, Bool.not_eq_true'] at h
      obtain ⟨⟨⟨h1, h2⟩, h3⟩, h4⟩ := h
      exact ⟨_, fnF_of e h1, He.eqO_ok h2, h3, h4⟩
    · cases h
  | prop q =>
    unfold TextT.attB at h
    dsimp only at h
    split at h
    · rename_i d e
      simp only [Bool.and_eq_true, Bool.not_eq_true'] at h
      obtain ⟨h1, h2⟩ := h
      split at h2
      · rename_i p ep
        simp only [Bool.and_eq_true] at h2
        obtain ⟨⟨k1, k2⟩, k3⟩ := h2
        split at k3
        · rename_i g rest er
          have eg := of_decide_eq_true k3
          subst eg
          exact ⟨_, p, fnF_of e h1, ep, He.eqO_ok k1, of_decide_eq_true k2, rest, er⟩
        · cases k3
      · cases h2
    · cases h
  | dflt =>
    unfold TextT.attB at h
    dsimp only at h
    obtain ⟨h1, h2⟩ := Bool.and_eq_true_iff.mp h
    exact ⟨of_decide_eq_true h1, He.eqO_ok h2⟩
  | con d =>
    unfold TextT.attB at h
    dsimp only at h
    split at h
    · rename_i v ev
      simp only [Bool.and_eq_true, Bool.not_eq_true'] at h
      obtain ⟨u, hc⟩ := He.conB_ok h.1 h.2
      refine ⟨_, u, hc, fun g => ?_⟩
      cases d <;> cases ev
      · exact .non
      · exact .bl _
      · exact .int _
      · exact .str _
    · cases h
  | stat q =>
    unfold TextT.attB at h
    dsimp only at h
    split at h
    · rename_i d e
      simp only [Bool.and_eq_true, Bool.not_eq_true'] at h
      obtain ⟨⟨h1, h2⟩, h3⟩ := h
      obtain ⟨r1, r2⟩ := Bool.and_eq_true_iff.mp h2
      unfold TextT.recB at h3
      split at h3
      · rename_i i p C' ef
        simp only [Bool.and_eq_true, decide_eq_true_eq] at h3
        obtain ⟨⟨rfl, rfl⟩, h4⟩ := h3
        split at h4
        · rename_i g rest er
          have eg := of_decide_eq_true h4
          subst eg
          exact ⟨_, p, TextT.tyT, rest, fnF_of e h1, ⟨r1, He.eqO_ok r2⟩, ef, er⟩
        · cases h4
      · cases h3
    · cases h
  | clsm q =>
    unfold TextT.attB at h
    dsimp only at h
    split at h
    · rename_i d e
      simp only [Bool.and_eq_true, Bool.not_eq_true'] at h
      obtain ⟨⟨⟨h1, h2⟩, h3⟩, h5⟩ := h
      obtain ⟨r1, r2⟩ := Bool.and_eq_true_iff.mp h2
      unfold TextT.recB at h3
      split at h3
      · rename_i i p C' ef
        simp only [Bool.and_eq_true, decide_eq_true_eq] at h3
        obtain ⟨⟨rfl, rfl⟩, h4⟩ := h3
        split at h4
        · rename_i g rest er
          have eg := of_decide_eq_true h4
          subst eg
          exact ⟨_, p, TextT.tyT, fnF_of e h1, ⟨r1, He.eqO_ok r2⟩, ef, ⟨rest, er⟩, h5⟩
        · cases h4
      · cases h3
    · cases h
end
end Zw

namespace Zw
open PySem L2 PyProof.Rows PySem.Spec ClX
section
variable {T : TextT} {D : Md}
theorem cls_of (o : TOk T D) {c : DefT → Con} {cl : TextT.LC} {k : Nat} {x : Str} {ci : ClsI} (h : T.cls.lookup x = some ci) : ClsOk D k (T.enOf c cl) x ci := by
  have hb := o.kk.cls _ (lookup_in h)
  obtain ⟨hp, hK, hG⟩ := o.kin
  unfold TextT.clsB at hb
  simp only [Bool.and_eq_true] at hb
  obtain ⟨⟨⟨⟨⟨b1, b2⟩, b3⟩, b4⟩, b5⟩, b6⟩ := hb
  unfold TextT.moreB at b6
  simp only [Bool.and_eq_true] at b6
  obtain ⟨⟨⟨⟨⟨⟨⟨⟨⟨m1, m2⟩, m3⟩, m4⟩, m5⟩, m6⟩, m7⟩, m8⟩, m9⟩, m10⟩ := b6
  refine ⟨He.cls_ok b1, He.glo_ok hK hG b2, b3, fun f hf => He.noat_ok (List.all_eq_true.mp b4 f hf), fun f a hfa => att_of o (List.all_eq_true.mp b5 _ (lookup_in hfa)), ⟨He.eqO_ok m1, of_decide_eq_true m2, ?_, fun c' ci' h' => ?_, fun c' ci' h' ne => ?_, fun t ht => ?_, fun t ht => ?_, fun nm hn => ?_, m8, fun hi nm hn => ?_, He.eqO_ok m10⟩⟩
  · rw [Bool.and_eq_true]; exact m3
  · exact of_decide_eq_true (List.all_eq_true.mp m4 _ (lookup_in h'))
  · have := List.all_eq_true.mp m5 _ (lookup_in h')
    simp only [Bool.or_eq_true, decide_eq_true_eq, Bool.not_eq_true', decide_eq_false_iff_not] at this
    exact this.resolve_left ne
  · have := List.all_eq_true.mp m6 t ht
    simp only [Bool.and_eq_true, decide_eq_true_eq] at this
    exact this.1
  · have := List.all_eq_true.mp m6 t ht
    simp only [Bool.and_eq_true, decide_eq_true_eq] at this
    exact this.2
  · have := List.all_eq_true.mp m7 nm hn
    unfold TextT.opB at this
    split at this
    · exact ⟨_, by assumption, .inl rfl⟩
    · rename_i g hg
      exact ⟨_, hg, .inr ⟨g, rfl⟩⟩
    · cases this
  · rw [hi] at m9
    simp only [Bool.not_true, Bool.false_or] at m9
    exact List.all_eq_true.mp m9 nm hn
theorem ty_of (o : TOk T D) : TyMore D.K := by
  have hb := o.kk.ty
  unfold TextT.tyB at hb
  simp only [Bool.and_eq_true] at hb
  obtain ⟨⟨⟨b0, b1⟩, b2⟩, b3⟩ := hb
  refine ⟨He.eqO_ok b1, of_decide_eq_true b2, ?_, fun nm hn => ?_⟩
  · unfold TextT.smB at b0
    split at b0
    · rename_i ob ho
      split at b0
      · rename_i es n hd
        exact ⟨ob, es, n, ho, hd⟩
      · cases b0
    · cases b0
  · have := List.all_eq_true.mp b3 nm hn
    simp only [Bool.and_eq_true] at this
    obtain ⟨fo, e1⟩ := Option.isSome_iff_exists.mp this.1
    obtain ⟨ro, e2⟩ := Option.isSome_iff_exists.mp this.2
    exact ⟨fo, ro, e1, e2⟩
/-! exceptions -/
theorem oex_of {K : PySem.W.Frag} {C : Addr} (h : TextT.oexB K C = true) (h1 : PySem.W.subIn K (.ref C) (.type "BaseException") = some true) (h2 : PySem.W.typeIn K (.ref C) = some (.type "type")) (h3 : PySem.W.keepIn K (.ref C) = true) : OexC K C := by
  unfold TextT.oexB at h
  obtain ⟨z1, z2⟩ := Bool.and_eq_true_iff.mp h
  refine ⟨?_, He.eqO_ok z2, h1, h2, h3⟩
  split at z1
  · rename_i ty dd cd sl ho
    obtain ⟨y1, y2⟩ := Bool.and_eq_true_iff.mp z1
    have ety := of_decide_eq_true y1
    subst ety
    split at y2
    · rename_i C' bm k0 k1 k2 k3 n k5 hm hs
      simp only [Bool.and_eq_true, decide_eq_true_eq, Bool.not_eq_true'] at y2
      obtain ⟨⟨⟨⟨rfl, rfl⟩, hdel⟩, hdi⟩, ht⟩ := y2
      obtain ⟨nm, bs, mro, ns, qn, hd, sn, sub, ab, col, del⟩ := cd
      dsimp only at hm hdel hdi
      subst hm hdel hdi
      have hsl : sl = #[k0, k1, k2, k3, some (.builtin "ValueError.__new__"), k5] := by
        obtain ⟨l⟩ := sl
        simp only at hs
        rw [hs]
      subst hsl
      exact ⟨nm, qn, ns, bs, bm, sn, sub, ab, col, dd, k0, k1, k2, k3, k5, ho, ht⟩
    · cases y2
  · cases z1
theorem ex_of (o : TOk T D) {c : DefT → Con} {cl : TextT.LC} {k : Nat} {x : Str} {xt : ExT} (h : T.exs.lookup x = some xt) : ExOk D k (T.enOf c cl) x xt.xi := by
  have hb := o.kk.exs _ (lookup_in h)
  have ht := (tt_of o.t).exs _ (lookup_in h)
  obtain ⟨hp, hK, hG⟩ := o.kin
  have ty := ty_of o
  unfold TextT.exB at hb
  simp only [Bool.and_eq_true, decide_eq_true_eq] at hb
  obtain ⟨⟨⟨⟨⟨⟨⟨⟨⟨⟨⟨⟨⟨⟨⟨b1, b2⟩, b3⟩, b4⟩, b5⟩, b6⟩, b7⟩, b8⟩, b9⟩, b10⟩, b11⟩, b12⟩, b13⟩, b14⟩, b15⟩, b16⟩ := hb
  refine ⟨He.glo_ok hK hG b1, b2, ⟨He.eqO_ok b3, He.eqO_ok b4, b5, b6, He.eqO_ok b7, ty.cn, ty.ct, b8⟩, b9, b10, fun c' xi' h' => ?_, fun c' ci' h' => ?_, fun t ht => ?_, fun f hf => He.eqO_ok (List.all_eq_true.mp b14 f hf), b15, ?_⟩
  · obtain ⟨xt', e1, e2⟩ := Option.map_eq_some_iff.mp (show (T.exs.lookup c').map ExT.xi = some xi' from h')
    exact of_decide_eq_true (List.all_eq_true.mp b11 _ (lookup_in e1))
  · have := List.all_eq_true.mp b12 _ (lookup_in h')
    simp only [Bool.and_eq_true, decide_eq_true_eq] at this
    exact this
  · have := List.all_eq_true.mp b13 t ht
    simp only [Bool.and_eq_true, decide_eq_true_eq] at this
    exact this
  · unfold TextT.mkB at b16
    dsimp only at b16 ht
    unfold ExT.xi
    cases ei : xt.ini with
    | none =>
      rw [ei] at b16
      obtain ⟨z1, z2⟩ := Bool.and_eq_true_iff.mp b16
      exact ⟨by simpa using z1, z2⟩
    | some d =>
      rw [ei] at b16
      simp only [Bool.and_eq_true, decide_eq_true_eq] at b16
      obtain ⟨⟨⟨⟨⟨z1, z2⟩, z3⟩, z4⟩, z5⟩, z6⟩ := b16
      unfold TextT.exTB at ht
      rw [ei] at ht
      dsimp only at ht
      simp only [Bool.and_eq_true] at ht
      obtain ⟨⟨y1, y2⟩, y3⟩ := ht
      have od := DefT.ok_of y1
      have mem : d ∈ T.xdefs := List.mem_append_right _ (List.mem_filterMap.mpr ⟨_, lookup_in h, ei⟩)
      obtain ⟨fd, F⟩ := fun_of (o.obs_ mem) z6
      cases ep : d.ps with
      | nil => rw [ep] at y3; cases y3
      | cons s0 qs =>
        rw [ep] at y3
        simp only [Bool.and_eq_true, decide_eq_true_eq] at y3
        obtain ⟨⟨w1, w2⟩, w3⟩ := y3
        subst w1
        have hne : xt.qs ≠ [] := fun z => by rw [z] at z1; cases z1
        have S : FnScope d.N (s0 :: xt.qs) d.scope := by rw [← ep]; exact od.sc
        have hl : xt.qs.length + 1 ≤ d.N.length := by have := od.len; rw [ep] at this; simpa using this
        have hd0 : d.dfl = [] := List.isEmpty_iff.mp y2
        refine ⟨hne, z2, oex_of z3 b5 b9 b2, He.eqO_ok z4, z5, fd, s0, xi_fn F S hl w2 hne z2 w3, ?_⟩
        obtain ⟨oc, od', dV, kV, doc, pm, an, cdv, ct, osl, rfl, lk, hcd, hD, hK'⟩ := F.ex
        obtain ⟨ds, r, b⟩ := binds_all (x := d.name) (qual := d.qual) (args := d.params.args) (defs := d.params.defaults) (body := d.body) (scope := d.scope) (kV := kV) (doc := doc) (pm := pm) (an := an) (cdv := cdv) (ct := ct) (ps := d.ps) hD rfl
        have e0 : ds = [] := by
          rw [hd0] at r
          cases r
          rfl
        intro sh us X hu
        rw [List.append_nil] at hu ⊢
        refine BindsTo.of_looks fun M => ?_
        rw [od.par]
        have hb := b M sh.heap X us [] us (by
          rw [e0]
          have := pos_bind (ps := d.ps) (us := us) (ds := ([] : List Value)) (by have := od.pos; rw [hd0] at this; simpa using this) (by rw [ep]; simp at hu ⊢; omega) (by rw [ep]; simp at hu ⊢; omega)
          simpa using this)
        rw [ep] at hb
        exact hb
theorem en_of (o : TOk T D) {c : DefT → Con} {cl : TextT.LC} {k : Nat} (hf : ∀ d ∈ T.defs, d.ini = false → FnK D k (adP d.at_ D.K) d.ps (d.dfl.map dvDat) (spOf D.K d.ps.length (c d)))
    (hi : ∀ d ∈ T.defs, d.ini = true → FnK D k (adP d.at_ D.K) d.ps (d.dfl.map dvDat) (spInit D.K d.ps.length (c d))) (hl : ∀ d ∈ T.defs, d.lam = true → d.ini = false → ∃ k', k = k' + 1 ∧ LamFn D k' (adP d.at_ D.K) (cl.1 d)) (hsu : ∀ s ∈ T.sups, FnK D k (adP s.d.at_ D.K) s.d.ps (s.d.dfl.map dvDat) (spInit D.K s.d.ps.length (cl.2 s))) (ht : ∀ d ∈ T.defs, d.lam = true → d.ini = false → D.mg d.key = some (.ref (adP d.at_ D.K))) : EnOk D k (T.enOf c cl) := by
  have kk := o.kk
  obtain ⟨hp, hK, hG⟩ := o.kin
  refine ⟨fun q fi h => ?_, fun x fi h => ?_, fun x ci h => cls_of o h, ty_of o, fun x d h => ?_, fun x h => ?_, fun x fi h h' => ?_, fun x xi h => ?_, fun x li h => ?_, fun q fi h => ?_, fun x fi h => ?_⟩
  · obtain ⟨d, e1, e2, rfl⟩ := fnF_some h
    have od := (o.fun_ (dOf_mem e1)).1
    exact FnK.fi (ps := d.ps) (hf d (dOf_mem e1) e2) rfl (by simpa [TextT.fiOf] using od.le) (by simpa [TextT.fiOf] using od.pos)
  · have h : T.iniF c cl.2 x = some fi := h
    unfold TextT.iniF at h
    cases e0 : T.inis.lookup x with
    | none => rw [e0] at h; cases h
    | some q =>
      rw [e0] at h
      dsimp only at h
      cases e : T.dOf q with
      | none =>
        rw [e] at h
        dsimp only at h
        cases es : T.sOf q with
        | none => rw [es] at h; cases h
        | some sd =>
          rw [es] at h; cases h
          have mem : sd ∈ T.sups := List.mem_of_find?_eq_some es
          have od := (tt_of o.t).sups sd mem
          have hb := kk.ini _ (lookup_in e0)
          unfold TextT.iniB at hb
          dsimp only at hb
          rw [e] at hb
          dsimp only at hb
          rw [es] at hb
          unfold TextT.iniAtB at hb
          simp only [Bool.and_eq_true] at hb
          obtain ⟨⟨⟨b2, b3⟩, b4⟩, b5⟩ := hb
          exact ⟨⟨b2, He.eqO_ok b3, b4, b5⟩, FnK.ii (ps := sd.d.ps) (hsu sd mem) rfl (by simpa [TextT.fiS] using od.ini) (by simpa [TextT.fiS] using od.pos)⟩
      | some d =>
        rw [e] at h
        dsimp only at h
        by_cases z : d.ini = true
        case neg => rw [if_neg z] at h; cases h
        rw [if_pos z] at h; cases h
        have od := (o.fun_ (dOf_mem e)).1
        have hb := kk.ini _ (lookup_in e0)
        unfold TextT.iniB at hb
        dsimp only at hb
        rw [e] at hb
        unfold TextT.iniAtB at hb
        simp only [Bool.and_eq_true] at hb
        obtain ⟨b1, ⟨⟨b2, b3⟩, b4⟩, b5⟩ := hb
        exact ⟨⟨b2, He.eqO_ok b3, b4, b5⟩, FnK.ii (ps := d.ps) (hi d (dOf_mem e) z) rfl (by simpa [TextT.fiOf] using od.ini z) (by simpa [TextT.fiOf] using od.pos)⟩
  · have h : T.gloF x = some d := h
    unfold TextT.gloF at h
    split at h
    · rename_i v e1
      cases h
      have hb := kk.glo _ (lookup_in e1)
      unfold TextT.gloB at hb
      obtain ⟨b1, b2⟩ := Bool.and_eq_true_iff.mp hb
      split at b2
      · rename_i u hu
        exact ⟨_, u, PySem.W.mg_of hK hG hu, He.relB_ok b2, fun g => dv_rep b1⟩
      · cases b2
    · split at h
      · rename_i vs e2
        cases h
        have hb := kk.tup _ (lookup_in e2)
        unfold TextT.tupB at hb
        simp only [Bool.and_eq_true] at hb
        obtain ⟨⟨b1, b2⟩, b3⟩ := hb
        exact ⟨.ref (He.ga D.K x), _, He.glo_ok hK hG b3, rfl, fun g => .tup (He.tupB_ok b2 g.P) (dvs_rep b1)⟩
      · split at h
        · rename_i z
          cases h
          obtain ⟨xt, e3⟩ := Option.isSome_iff_exists.mp z
          exact ⟨.ref (He.ga D.K x), _, (ex_of o (c := c) (cl := cl) (k := k) e3).glo, rfl, fun g => .cls x⟩
        · cases h
  · have h : T.free.contains x = true := h
    exact He.free_ok hK hG (kk.free x (by simpa using h))
  · have h : T.tops.contains x = true := h
    have hb := kk.top x (by simpa using h)
    obtain ⟨d, e1, e2, rfl⟩ := fnF_some h'
    unfold TextT.topB at hb
    rw [e1] at hb
    exact PySem.W.mg_of hK hG (He.eqO_ok hb)
  · obtain ⟨xt, e1, e2⟩ := Option.map_eq_some_iff.mp (show (T.exs.lookup x).map ExT.xi = some xi from h)
    subst e2
    exact ex_of o e1
  · have h : T.lamF cl x = some li := h
    unfold TextT.lamF at h
    cases e : T.dOf x with
    | none => rw [e] at h; cases h
    | some d =>
      rw [e] at h
      dsimp only at h
      by_cases z : d.lam = true ∧ d.ini = false
      case neg => rw [if_neg z] at h; cases h
      rw [if_pos z] at h; cases h
      have mem := dOf_mem e
      have ek : d.key = x := by
        have := List.find?_some e
        exact of_decide_eq_true this
      have hm := ht d mem z.1 z.2
      rw [ek] at hm
      obtain ⟨od, fd, F⟩ := o.fun_ mem
      exact ⟨hl d mem z.1 z.2, hm, F.kp⟩
  · obtain ⟨d, e1, e2, rfl⟩ := fnF_some h
    exact hf d (dOf_mem e1) e2
  · have h : T.iniF c cl.2 x = some fi := h
    unfold TextT.iniF at h
    cases e0 : T.inis.lookup x with
    | none => rw [e0] at h; cases h
    | some q =>
      rw [e0] at h
      dsimp only at h
      cases e : T.dOf q with
      | none =>
        rw [e] at h
        dsimp only at h
        cases es : T.sOf q with
        | none => rw [es] at h; cases h
        | some sd =>
          rw [es] at h; cases h
          exact hsu sd (List.mem_of_find?_eq_some es)
      | some d =>
        rw [e] at h
        dsimp only at h
        by_cases z : d.ini = true
        case neg => rw [if_neg z] at h; cases h
        rw [if_pos z] at h; cases h
        exact hi d (dOf_mem e) z
theorem fnok_stuck {k : Nat} {f : Addr} {fd : FuncData} {ps : List Str} {sp : Sp} (h : ∀ vs H Q E, ¬ sp vs H Q E) : FnOk D.P D.w D.K D.mg D.base (CX D.P D.w) k f fd ps sp := ⟨fun vs H Q E z => (h _ _ _ _ z).elim, fun A outer s H args us vs Q E _ _ _ _ z => (h _ _ _ _ z).elim⟩
/-- a code object by its def -/
theorem codeV_P {K : PySem.W.Frag} {p : Str × Option Str} {q : Str} {dv : List He.Dv} (h : fnB K (adP p K) q dv = true) : codeV K (adP p K) = .ref (codeP p K) := by
  obtain ⟨_, c2⟩ := Bool.and_eq_true_iff.mp h
  unfold codeV codeP
  split at c2
  · rename_i oc od fd osl e
    obtain ⟨k1, _⟩ := Bool.and_eq_true_iff.mp c2
    obtain ⟨c, ec⟩ := He.codeIn_ref k1
    first
      | (rw [e]; dsimp only; rw [ec])
      | rw [ec]
  · cases c2
theorem xs_of (o : TOk T D) {X : Cx} {E : En} {EL : Option En} {d : DefT} {k k' : Nat} (hd : d ∈ T.defs) (h : XOk X D d.N d.scope k' (adP d.at_ D.K) d.qual) (hk : k + 2 ≤ k') (N : EnOk D k E) : XS D X (TextT.ccOf E EL d) k d.scope where
  ok := by rw [h.md]; exact N
  nm := h.nm
  nd := by rw [h.nm]; exact h.nd
  sce := fun _ => h.sc
  sc := by rw [h.sc]; exact ScR.refl _
  calm := h.calm
  room := h.room.mono hk
  fn := fun _ => h.fn
  md := h.md
  stk := fun _ => h.fun_.stk
  lam := fun _ n p q ht => by
    have eK : X.K = D.K := by rw [← h.md]
    have eb : X.base = D.base := by rw [← h.md]
    have em : X.mg = D.mg := by rw [← h.md]
    unfold TextT.ccOf at ht
    cases EL with
    | none => cases ht
    | some E' =>
      obtain ⟨m, e1, e2⟩ := Option.map_eq_some_iff.mp ht
      cases e2
      have tb := (tt_of o.t).tab d hd
      unfold TextT.tabTB at tb
      rw [e1] at tb
      simp only [Bool.and_eq_true, decide_eq_true_eq] at tb
      have mem : d.at_ ∈ T.tabs := List.mem_of_getElem? tb.1
      refine ⟨?_, ?_, ?_⟩
      · rw [h.fun_.code, eK]; exact codeV_P (o.kk.fn d hd)
      · rw [h.fun_.qual]; rfl
      · rw [eK, eb, em]; exact o.tb _ mem
  pass := h.pass
  frm := h.fun_.frm
  ex0 := h.fun_.ex0
  kind := by rw [h.sc]; exact ((tt_of o.t).defs d hd).sc.kind
theorem xs_ofS (o : TOk T D) {X : Cx} {E : En} {EL : Option En} {s : SupT} {k k' : Nat} (hs : s ∈ T.sups) (h : XOk X D s.d.N s.d.scope k' (adP s.d.at_ D.K) s.d.qual) (hk : k + 2 ≤ k') (N : EnOk D k E) : XS D X (TextT.ccOf E EL s.d) k s.d.scope where
  ok := by rw [h.md]; exact N
  nm := h.nm
  nd := by rw [h.nm]; exact h.nd
  sce := fun _ => h.sc
  sc := by rw [h.sc]; exact ScR.refl _
  calm := h.calm
  room := h.room.mono hk
  fn := fun _ => h.fn
  md := h.md
  stk := fun _ => h.fun_.stk
  lam := fun _ n p q ht => by
    unfold TextT.ccOf at ht
    have ho := ((tt_of o.t).sups s hs).tab
    cases EL with
    | none => cases ht
    | some E' =>
      dsimp only at ht
      rw [ho] at ht
      cases ht
  pass := h.pass
  frm := h.fun_.frm
  ex0 := h.fun_.ex0
  kind := by rw [h.sc]; exact ((tt_of o.t).sups s hs).sc.kind
/-- a def that is handed a lambda -/
theorem lrel_lam {K : PySem.W.Frag} {N : List Str} {g : Gh} {cs : List (Option Dat)} {H : Hp} {fl : Addr} {lc : LCon} (gr : GRel K g cs H) (hl : 1 ≤ N.length) : LRel K ⟨[], g, cs, H, fun f' c' => f' = fl ∧ c' = lc⟩ g ⟨.lam lc :: List.replicate (N.length - 1) .unset, cs⟩ (L2.start N [.ref fl]) H := by
  have at_ : ∀ (i : Nat) (y : Slot), (Slot.lam lc :: List.replicate (N.length - 1) .unset)[i]? = some y → y = .unset ∨ (i = 0 ∧ y = .lam lc) := fun i y e => by
    cases i with
    | zero => simp at e; exact .inr ⟨rfl, e.symm⟩
    | succ i =>
      rw [List.getElem?_cons_succ] at e
      exact .inl (List.eq_of_mem_replicate (List.mem_of_getElem? e))
  refine ⟨fun a z => by simp at z, gr, GExt.refl _ _ _, ?_, fun i d e => ?_, fun i d e => ?_, fun i d e => ?_, fun i j a d e z1 => ?_, fun i j d e z1 => ?_, fun i c e => ?_⟩
  · rw [start_len (by simpa using hl)]
    simp; omega
  · rcases at_ i _ e with q | ⟨_, q⟩ <;> cases q
  · rcases at_ i _ e with q | ⟨_, q⟩ <;> cases q
  · rcases at_ i _ e with q | ⟨_, q⟩ <;> cases q
  · rcases at_ i _ z1 with q | ⟨_, q⟩ <;> cases q
  · rcases at_ i _ z1 with q | ⟨_, q⟩ <;> cases q
  · rcases at_ i _ e with q | ⟨rfl, q⟩
    · cases q
    · cases q
      exact ⟨fl, rfl, rfl, rfl⟩
theorem lam_ok {f : Addr} {fd : FuncData} {N ps : List Str} {k : Nat} {body : List Stmt} {scope : Scope} {x qual : Str} {params : Arguments} {dvs : List V} {kws : List (Str × V)} {m : MS} (F : FunD D.K x qual params body scope dvs kws f fd) (S : FnScope N ps scope) (hp : ps.length = 1) (hlen : ps.length ≤ N.length)
    (hbd : ∀ (sh : Shared) (u : Value), D.K.In sh.heap → BindsTo sh fd ⟨[u], []⟩ (ps.zip [u])) (hb : ∀ X, XOk X D N scope k f qual → GSs X body m) : LamFn D k f (fun lc cs => endFn (m ⟨.lam lc :: List.replicate (N.length - 1) .unset, cs⟩)) := by
  obtain ⟨oc, od, dV, kV, doc, pm, an, cdv, ct, osl, rfl, lk, hcd, _, _⟩ := F.ex
  intro A outer s H fl Q E g cs lc hr e0 gr hcall ro
  refine LamX.run_ofS (vs := [.ref fl]) lk hcd S hr.rm e0 (hbd s (.ref fl) (fun b o e => (e0.bs b o (e0.mod.kin b o e)).1)) (.cons rfl .nil) (by simpa using hp.symm) fun h2 => ?_
  have hr2 : Room k (A.deeper (envOfC qual scope s.heap.objs.size f cdv)) := ⟨h2, hr.gd⟩
  refine ⟨_, (hb (cxOf (CX D.P D.w) D.P D.w D.K D.mg D.base N qual scope f cdv A outer s H E) ⟨rfl, rfl, S.nd, rfl, rfl, passes_of rfl, fun _ _ => .inl rfl, hr2, ⟨rfl, rfl, rfl, (codeV_of lk).symm, rfl⟩⟩).run ⟨[], g, cs, H, fun f' c' => f' = fl ∧ c' = lc⟩ (fun cls d _ H => E cls d H) ⟨takes_of rfl rfl rfl rfl, fun _ _ f' c' z => ?_⟩, g, ⟨.lam lc :: List.replicate (N.length - 1) .unset, cs⟩, lrel_lam gr (by omega), ?_⟩
  · obtain ⟨rfl, rfl⟩ := z
    exact hcall _ ⟨N, qual, scope, cdv, rfl⟩ hr2
  · unfold resOk at ro
    dsimp only at ro
    cases e : m ⟨.lam lc :: List.replicate (N.length - 1) .unset, cs⟩ with
    | nx s' => rw [e] at ro; exact fun g' σ' H' l L => ro g' .non H' L.ex L.gr .non
    | rt d s' => rw [e] at ro; exact fun g' σ' v H' l L rv => ro g' v H' L.ex L.gr rv
    | exc x s' => rw [e] at ro; exact fun g' σ' H' cls dd l L rv => ro g' H' cls dd L.ex L.gr rv
    | bk s' => rw [e] at ro; exact ro.elim
    | ct s' => rw [e] at ro; exact ro.elim
    | stuck => rw [e] at ro; exact ro.elim
end
end Zw

namespace Zw
open PySem L2 PyProof.Rows PySem.Spec ClX
section
variable {T : TextT} {D : Md}
theorem en_top (o : TOk T D) {d : DefT} (hd : d ∈ T.defs) (hl : T.tops.contains d.key = true) (hk : T.dOf d.key = some d) : D.mg d.key = some (.ref (adP d.at_ D.K)) := by
  have hb := o.kk.top d.key (by simpa using hl)
  obtain ⟨hp, hK, hG⟩ := o.kin
  unfold TextT.topB at hb
  rw [hk] at hb
  exact PySem.W.mg_of hK hG (He.eqO_ok hb)
/-- the defs that are handed a lambda are defs of the module -/
def lamTop (T : TextT) : Bool := T.defs.all fun d => !d.lam || (T.tops.contains d.key && (match T.dOf d.key with
  | some e => decide (e.at_ = d.at_)
  | none => false))
theorem lam_top (o : TOk T D) (hT : lamTop T = true) {d : DefT} (hd : d ∈ T.defs) (hl : d.lam = true) : D.mg d.key = some (.ref (adP d.at_ D.K)) := by
  have h := List.all_eq_true.mp hT d hd
  rw [hl] at h
  simp only [Bool.not_true, Bool.false_or, Bool.and_eq_true] at h
  obtain ⟨h1, h2⟩ := h
  have hb := o.kk.top d.key (by simpa using h1)
  obtain ⟨hp, hK, hG⟩ := o.kin
  unfold TextT.topB at hb
  split at h2
  · rename_i e he
    rw [he] at hb
    have e1 := of_decide_eq_true h2
    rw [← e1]
    exact PySem.W.mg_of hK hG (He.eqO_ok hb)
  · cases h2
theorem bodies (o : TOk T D) {E : En} {EL : Option En} {k : Nat} (N : EnOk D k E) (NL : ∀ E', EL = some E' → ∃ kl, kl + 4 ≤ k ∧ EnOk D kl E') {d : DefT} (hd : d ∈ T.defs) {k' : Nat} (hk : k + 2 ≤ k') {X : Cx} (h : XOk X D d.N d.scope k' (adP d.at_ D.K) d.qual) : GSs X d.body (T.bodyOf E EL d) := by
  refine (comp_ok (D := D) (C := TextT.ccOf E EL d) (k := k) (fun z => ?_) T.fuel).cB X d.scope d.body (xs_of o hd h hk N)
  cases EL with
  | none => cases z
  | some E' =>
    obtain ⟨kl, h1, h2⟩ := NL E' rfl
    exact ⟨E', kl, rfl, h1, h2⟩
theorem bodiesS (o : TOk T D) {E : En} {EL : Option En} {k : Nat} (N : EnOk D k E) (NL : ∀ E', EL = some E' → ∃ kl, kl + 4 ≤ k ∧ EnOk D kl E') {s : SupT} (hs : s ∈ T.sups) {k' : Nat} (hk : k + 2 ≤ k') {X : Cx} (h : XOk X D s.d.N s.d.scope k' (adP s.d.at_ D.K) s.d.qual) : GSs X s.d.body.tail ((comp EL (TextT.ccOf E EL s.d) T.fuel).cB s.d.scope s.d.body.tail) := by
  refine (comp_ok (D := D) (C := TextT.ccOf E EL s.d) (k := k) (fun z => ?_) T.fuel).cB X s.d.scope s.d.body.tail (xs_ofS o hs h hk N)
  cases EL with
  | none => cases z
  | some E' =>
    obtain ⟨kl, h1, h2⟩ := NL E' rfl
    exact ⟨E', kl, rfl, h1, h2⟩
theorem EnOk.up {D : Md} {k k' : Nat} {E : En} (N : EnOk D k E) (h : k ≤ k') : True := trivial
/-- a def that says super().__init__() -/
theorem sup_fnk (o : TOk T D) {s : SupT} (hs : s ∈ T.sups) {k : Nat} {c : Con} (hf : ∀ (f cc Dc : Addr) (slf0 : Str) (oc : Value) (od : Option Addr) (dV kV doc pm : Value) (an : Option Addr) (cdv ct : Value) (osl : Array (Option Value)), s.d.ps[0]? = some slf0 → f = adP s.d.at_ D.K → Dc = He.ga D.K s.cls →
      D.K.lookup f = some ⟨oc, od, .func (PySem.W.fnX s.d.name s.d.qual s.d.params s.d.body s.d.scope [("__class__", cc)] dV kV doc pm an cdv ct), osl⟩ → PySem.W.codeIn D.K cdv s.d.qual = true → SupAt D.P D.K D.mg f cc Dc (PySem.W.fnX s.d.name s.d.qual s.d.params s.d.body s.d.scope [("__class__", cc)] dV kV doc pm an cdv ct) slf0 cdv →
      FnOk D.P D.w D.K D.mg D.base (CX D.P D.w) k f (PySem.W.fnX s.d.name s.d.qual s.d.params s.d.body s.d.scope [("__class__", cc)] dV kV doc pm an cdv ct) s.d.ps (spInit D.K s.d.ps.length c)) : FnK D k (adP s.d.at_ D.K) s.d.ps (s.d.dfl.map dvDat) (spInit D.K s.d.ps.length c) := by
  have os := (tt_of o.t).sups s hs
  have kb := o.kk.sup s hs
  obtain ⟨hp, hK, hG⟩ := o.kin
  have sp := List.all_eq_true.mp o.sp s hs
  unfold supP at sp
  simp only [Bool.and_eq_true, Bool.not_eq_true'] at sp
  unfold TextT.supB at kb
  simp only [Bool.and_eq_true] at kb
  obtain ⟨⟨⟨⟨⟨b1, b2⟩, b3⟩, b4⟩, b5⟩, b6⟩ := kb
  have hps : ∃ slf0, s.d.ps[0]? = some slf0 := by
    cases e : s.d.ps with
    | nil => have := os.ini; rw [e] at this; simp at this
    | cons a l => exact ⟨a, rfl⟩
  obtain ⟨slf0, h0⟩ := hps
  obtain ⟨oc, od, dV, kV, doc, pm, an, cdv, ct, osl, cc, lk, hcd, hD, kp, sa⟩ := sup_of (P := D.P) (mg := D.mg) os (o.obsS_ hs) b1 b2 b3 (He.free_ok hK hG b4) (He.eqO_ok b5) sp.1 sp.2 h0
  exact fnk_ofS os hD kp (hf _ cc _ slf0 oc od dV kV doc pm an cdv ct osl h0 rfl rfl lk hcd sa)
theorem en_step (o : TOk T D) (hT : lamTop T = true) {E : En} {EL : Option En} {k : Nat} (N : EnOk D k E) (hadr : ∀ p fi, E.ini p = some fi → T.iniAt D.K p = some (fi.adr D.K)) (NL : ∀ E', EL = some E' → ∃ kl, kl + 4 ≤ k ∧ EnOk D kl E') : EnOk D (k + 4) (T.enOf (T.conOf E EL) (T.lamOf E EL)) := by
  refine en_of o (fun d hd hi => ?_) (fun d hd hi => ?_) (fun d hd hl hi => ⟨k + 3, rfl, ?_⟩) (fun s hs => ?_) fun d hd hl _ => lam_top o hT hd hl
  · obtain ⟨od, fd, F⟩ := o.fun_ hd
    have e : T.conOf E EL d = runFn d.ps.length d.N.length (T.bodyOf E EL d) := by
      unfold TextT.conOf; rw [if_neg (by simp [hi])]
    rw [e]
    exact fnk_of od F (fn_ok (k := k + 3) F od.sc od.len fun X hx => bodies o N NL hd (by omega) hx)
  · obtain ⟨od, fd, F⟩ := o.fun_ hd
    have e : T.conOf E EL d = runIn d.ps.length d.N.length (T.bodyOf E EL d) := by
      unfold TextT.conOf; rw [if_pos hi]
    rw [e]
    exact fnk_of od F (init_ok (k := k + 3) F od.sc od.len fun X hx => bodies o N NL hd (by omega) hx)
  · obtain ⟨od, fd, F⟩ := o.fun_ hd
    obtain ⟨hp, hdf⟩ := (tt_of o.t).lam d hd hl
    refine lam_ok F od.sc hp od.len (fun sh u X => ?_) fun X hx => bodies o N NL hd (by omega) hx
    obtain ⟨oc, od', dV, kV, doc, pm, an, cdv, ct, osl, rfl, lk, hcd, hD, hK'⟩ := F.ex
    obtain ⟨ds, r, b⟩ := binds_all (x := d.name) (qual := d.qual) (args := d.params.args) (defs := d.params.defaults) (body := d.body) (scope := d.scope) (kV := kV) (doc := doc) (pm := pm) (an := an) (cdv := cdv) (ct := ct) (ps := d.ps) hD rfl
    have e0 : ds = [] := by
      rw [hdf] at r
      cases r
      rfl
    refine BindsTo.of_looks fun M => ?_
    rw [od.par]
    refine b M sh.heap X [u] [] [u] ?_
    rw [e0]
    have := pos_bind (ps := d.ps) (us := [u]) (ds := ([] : List Value)) (by have := od.pos; rw [hdf] at this; simpa using this) (by simp [hp]) (by simp [hp])
    simpa using this
  · refine sup_fnk o hs fun f cc Dc slf0 oc od dV kV doc pm an cdv ct osl h0 hf hDc lk hcd sa => ?_
    have os := (tt_of o.t).sups s hs
    have kb := o.kk.sup s hs
    unfold TextT.supB at kb
    simp only [Bool.and_eq_true] at kb
    obtain ⟨_, b6⟩ := kb
    obtain ⟨p0, p1, p2, p3, p4, hbody, hline⟩ := supHead_ok os.hd
    subst hf hDc
    have tabs : ∀ c p fi, s.tab.lookup c = some p → E.ini p = some fi → T.iniAt D.K p = some (fi.adr D.K) → PySem.W.mroIn D.K (He.ga D.K c) (.ref (He.ga D.K s.cls)) = some true ∧ PySem.W.ks_superIn D.K (He.ga D.K c) (He.ga D.K s.cls) "__init__" = some (some (.ref (fi.adr D.K))) ∧ PySem.W.fnIn D.K (fi.adr D.K) = true ∧ PySem.W.typeIn D.K (.ref (fi.adr D.K)) = some (.type "function") := fun c p fi h1 h2 h3 => by
      have := List.all_eq_true.mp b6 _ (lookup_in h1)
      unfold TextT.supTab at this
      rw [h3] at this
      simp only [Bool.and_eq_true, decide_eq_true_eq] at this
      obtain ⟨⟨⟨z1, z2⟩, z3⟩, z4⟩ := this
      exact ⟨z1, He.eqO_ok z2, z3, z4⟩
    show FnOk _ _ _ _ _ _ _ _ _ _ (spInit D.K s.d.ps.length (runIn s.d.ps.length s.d.N.length (seqS (superS E s.tab) ((comp EL (TextT.ccOf E EL s.d) T.fuel).cB s.d.scope s.d.body.tail))))
    rw [hbody] at lk sa ⊢
    exact sup_ok (k := k + 3) lk hcd os.sc os.len sa h0 hline (show k ≤ k + 3 by omega) N (fun c p fi h1 h2 => tabs c p fi h1 h2 (hadr p fi h2)) fun X hx => bodiesS o N NL hs (by omega) hx
theorem ini_at {c : DefT → Con} {cl : TextT.LC} {K : PySem.W.Frag} {p : Str} {fi : FnI} (h : (T.enOf c cl).ini p = some fi) : T.iniAt K p = some (fi.adr K) := by
  have h : T.iniF c cl.2 p = some fi := h
  unfold TextT.iniF at h
  unfold TextT.iniAt
  cases e0 : T.inis.lookup p with
  | none => rw [e0] at h; cases h
  | some q =>
    rw [e0] at h
    dsimp only at h ⊢
    cases e : T.dOf q with
    | none =>
      rw [e] at h
      dsimp only at h ⊢
      cases es : T.sOf q with
      | none => rw [es] at h; cases h
      | some sd => rw [es] at h; cases h; rfl
    | some d =>
      rw [e] at h
      dsimp only at h ⊢
      by_cases z : d.ini = true
      · rw [if_pos z] at h; cases h; rfl
      · rw [if_neg z] at h; cases h
theorem ini_adr {K : PySem.W.Frag} {p : Str} {fi : FnI} (l : Nat) (h : (T.en l).ini p = some fi) : T.iniAt K p = some (fi.adr K) := by
  cases l with
  | zero => exact ini_at h
  | succ l => exact ini_at h
theorem en_ok2 (o : TOk T D) (hT : lamTop T = true) : ∀ l : Nat, EnOk D (4 * l + 1) (T.en l) ∧ ∀ E', T.el l = some E' → ∃ kl, kl + 4 ≤ 4 * l + 1 ∧ EnOk D kl E'
  | 0 => by
    refine ⟨en_of o (fun d hd _ => ?_) (fun d hd _ => ?_) (fun d hd hl hi => ?_) (fun s hs => ?_) fun d hd hl _ => lam_top o hT hd hl, fun E' z => by cases z⟩
    · obtain ⟨od, fd, F⟩ := o.fun_ hd
      exact fnk_of od F (fnok_stuck fun vs H Q E ⟨_, g, cs, ds, _, _, z⟩ => z)
    · obtain ⟨od, fd, F⟩ := o.fun_ hd
      exact fnk_of od F (fnok_stuck fun vs H Q E ⟨_, x, rest, g, cs, d0, ds, _, _, _, _, _, _, z⟩ => z)
    · exact ⟨0, rfl, fun A outer s H fl Q E g cs lc _ _ _ _ ro => ro.elim⟩
    · exact sup_fnk o hs fun f cc Dc slf0 oc od dV kV doc pm an cdv ct osl h0 hf hDc lk hcd sa => fnok_stuck fun vs H Q E ⟨_, x, rest, g, cs, d0, ds, _, _, _, _, _, _, z⟩ => z
  | l + 1 => by
    obtain ⟨h1, h2⟩ := en_ok2 o hT l
    refine ⟨?_, fun E' z => ?_⟩
    · have := en_step o hT h1 (fun p fi h => ini_adr l h) h2
      exact this
    · cases z
      exact ⟨4 * l + 1, by omega, h1⟩
theorem en_ok (o : TOk T D) (hT : lamTop T = true) (l : Nat) : EnOk D (4 * l + 1) (T.en l) := (en_ok2 o hT l).1
/-! ### the law's end -/
theorem ins_nodup {α : Type} {l : List α} : l.Nodup → l.Nodup := id
/-- the tables and the script at the start -/
theorem law_sp {H : Hp} {a : Addr} {ns : List Int} {c : Con} {cs' : List (Option Dat)} (o : TT T) (K : PySem.W.Frag) (hH : ∀ p ∈ T.tabs, H (tabP p K) = some (.tbl #[])) (nd : (T.tabs.map fun p => tabP p K).Nodup) (hS : SqL K H a (ns.map V.int)) (ha : ∀ p ∈ T.tabs, tabP p K ≠ a) (hc : c [.lst (ns.map .int)] T.cs0 = .ret (.bl true) cs') : spOf K 1 c [.ref a] H (fun v _ => v = .bl true) fun _ _ _ => False := by
  have ri : ∀ (g : Gh) (ns : List Int), RepsG K g (ns.map V.int) (ns.map .int) := fun g ns => by
    induction ns with
    | nil => exact .nil
    | cons n ns ih => exact .cons (.int n) ih
  let P : Hp := fun b => if b ∈ T.tabs.map (fun p => tabP p K) then none else H b
  have hP : ∀ {b : Addr} {u : HO}, P b = some u → H b = some u := fun {b u} e => by
    have e : (if b ∈ T.tabs.map (fun p => tabP p K) then none else H b) = some u := e
    split at e
    · cases e
    · exact e
  have na : a ∉ T.tabs.map (fun p => tabP p K) := fun z => by
    obtain ⟨p, h1, h2⟩ := List.mem_map.mp z
    exact ha p h1 h2
  have Pa : P a = H a := if_neg na
  have hS' : SqL K P a (ns.map V.int) := by
    rcases hS with (h | ⟨ob, h⟩) | h
    · exact .inl (.inl (by rw [Pa]; exact h))
    · exact .inl (.inr ⟨ob, by rw [Pa]; exact h⟩)
    · exact .inr h
  refine ⟨rfl, ⟨P, T.tabs.map fun p => tabP p K⟩, T.cs0, [.lst (ns.map .int)], ⟨fun b u e => .inl (hP e), by simp [TextT.cs0], nd, fun b z => ?_, fun n d b e1 e2 => ?_⟩, .cons (.lst hS' (ri _ _)) .nil, ?_⟩
  · obtain ⟨p, h1, h2⟩ := List.mem_map.mp z
    subst h2
    exact ⟨_, hH p h1⟩
  · have e2 : (T.tabs.map fun p => tabP p K)[n]? = some b := e2
    rw [List.getElem?_map] at e2
    obtain ⟨p, h1, h2⟩ := Option.map_eq_some_iff.mp e2
    subst h2
    have mem := List.mem_of_getElem? h1
    refine ⟨if_pos (List.mem_map.mpr ⟨p, mem, rfl⟩), ?_⟩
    unfold TextT.cs0 at e1
    rw [List.getElem?_map, h1] at e1
    simp only [Option.map_some, Option.some.injEq] at e1
    split at e1
    · rename_i d' hd'
      cases e1
      exact ⟨rfl, #[], hH p mem, True.intro, fun pos cv hcv => by cases hcv⟩
    · cases e1
  · rw [hc]
    intro g' v H' _ _ r
    cases r
    rfl
end
/-! ### the call of the law -/
section
variable {P : Program} {w : World} {K : PySem.W.Frag} {mg mb : Str → Option Value} {C : CXT} {k : Nat} {fa a : Addr} {cs : List (Addr × Addr)} {fd : FuncData} {x : Str} {sp : Sp} {s1 : Shared} {vs : List Value} {ns : List Int}
/-- the tables, and the script where K does not have it -/
def hp0 (K : PySem.W.Frag) (cs : List (Addr × Addr)) (a : Addr) (o : Obj) (ns : List Int) : Hp := fun b =>
  if cs.any (fun p => decide (p.2 = b)) then some (.tbl #[]) else if decide (b = a) && (K.lookup a).isNone then some (.frz o (.lst (ns.map V.int))) else none
theorem hp0_some {o : Obj} {b : Addr} {u : HO} (h : hp0 K cs a o ns b = some u) : ((∃ p ∈ cs, p.2 = b) ∧ u = .tbl #[]) ∨ (b = a ∧ K.lookup a = none ∧ u = .frz o (.lst (ns.map V.int))) := by
  unfold hp0 at h
  split at h
  · rename_i z
    cases h
    obtain ⟨p, h1, h2⟩ := List.any_eq_true.mp z
    exact .inl ⟨⟨p, h1, of_decide_eq_true h2⟩, rfl⟩
  · split at h
    · rename_i z
      cases h
      obtain ⟨z1, z2⟩ := Bool.and_eq_true_iff.mp z
      exact .inr ⟨of_decide_eq_true z1, Option.isNone_iff_eq_none.mp z2, rfl⟩
    · cases h
theorem law_run (KX : K.In s1.heap) (hG : s1.heap.Ns mainGlobals mg) (hB : s1.heap.Ns builtinsNs mb) (hBB : ∀ x : Str, x ≠ "__name__" → mb x = bootBuiltins x) (hLim : s1.heap.NoLimit) (hGen : s1.gens = #[])
    (hT : ∀ p ∈ cs, s1.heap.get? p.2 = some { cls := .none, data := .fields #[] }) (nT : ∀ p ∈ cs, K.lookup p.2 = none) (hC : ∀ p ∈ cs, PySem.W.CodeHd s1.heap p.1 p.2)
    (hM : ∃ (m : Addr) (om : Obj), mg "__builtins__" = some (.ref m) ∧ m ≠ builtinsNs ∧ s1.heap.get? m = some om ∧ om.cls = .type "module" ∧ om.dict = some builtinsNs ∧ om.data = .plain)
    (ha : s1.heap.get? a = some { cls := .type "list", data := .seq vs.toArray }) (hI : IntsAre vs ns) (hLen : ns.length ≤ sizeLine) (hr : Room k callerA)
    (F : ∀ base : Heap, K.In base → base.Ns mainGlobals mg → (∀ p ∈ cs, LamX.TabB base mg p.1 p.2) → FnOk P w K mg base C k fa fd [x] sp) (hBind : ∀ (s : Shared) (u : Value), BindsTo s fd ⟨[u], []⟩ [(x, u)])
    (hSp : ∀ H : Hp, (∀ p ∈ cs, H p.2 = some (.tbl #[])) → SqL K H a (ns.map V.int) → sp [.ref a] H (fun v _ => v = .bl true) fun _ _ _ => False) (hCX : ∀ H e s', C [] H s1 (fun _ _ _ => False) e s' → False) :
    codeAny (model P w) callerA (.call (.ref fa) ⟨[.ref a], []⟩) (fun r s' => r = .ok (.ret (.bool true)) ∧ OldK s1.heap s'.heap ∧ s'.os = s1.os ∧ AllBare s'.gens) s1 := by
  obtain ⟨ob, eob⟩ : ∃ o : Obj, o = { cls := .type "list", data := .seq vs.toArray } := ⟨_, rfl⟩
  rw [← eob] at ha
  obtain ⟨H, eH⟩ : ∃ H, H = hp0 K cs a ob ns := ⟨_, rfl⟩
  have inv : ∀ {b u}, H b = some u → ((∃ p ∈ cs, p.2 = b) ∧ u = .tbl #[]) ∨ (b = a ∧ K.lookup a = none ∧ u = .frz ob (.lst (ns.map V.int))) := fun h => hp0_some (by rw [← eH]; exact h)
  have tabAt : ∀ p ∈ cs, H p.2 = some (.tbl #[]) := fun p hp => by
    rw [eH]
    exact if_pos (List.any_eq_true.mpr ⟨p, hp, decide_eq_true rfl⟩)
  have aTab : ¬ ∃ p ∈ cs, p.2 = a := fun ⟨p, hp, e⟩ => by
    have z := hT p hp
    rw [e, ha, eob] at z
    injection z with z
    injection z with _ _ z
    cases z
  -- what is neither a table nor the script is not told
  have quiet : ∀ {b : Addr} {o : Obj}, s1.heap.get? b = some o → o.data ≠ .fields #[] → (∀ us n, o.data ≠ .seq us n) → H b = none := fun {b o} hb n1 n2 => by
    cases q : H b with
    | none => rfl
    | some u =>
      rcases inv q with ⟨⟨p, hp, e⟩, _⟩ | ⟨e, _, _⟩
      · rw [← e, hT p hp] at hb
        cases hb
        exact absurd rfl n1
      · rw [e, ha, eob] at hb
        cases hb
        exact absurd rfl (n2 _ _)
  have stay : ∀ {b : Addr} {o : Obj}, s1.heap.get? b = some o → o.data ≠ .fields #[] → (∀ us n, o.data ≠ .seq us n) → (hidT s1.heap H).get? b = some o := fun hb n1 n2 => hidT_get hb (quiet hb n1 n2)
  have names : ∀ {b : Addr} {m : Str → Option Value}, s1.heap.Ns b m → (hidT s1.heap H).Ns b m := fun {b m} ⟨o, es, ep, h1, h2, h3⟩ => ⟨o, es, ep, stay h1 (fun z => by rw [h2] at z; cases z) (fun us n z => by rw [h2] at z; cases z), h2, h3⟩
  have Kb : K.In (hidT s1.heap H) := fun b o e => hidT_get (KX b o e) (by
    cases q : H b with
    | none => rfl
    | some u =>
      rcases inv q with ⟨⟨p, hp, z⟩, _⟩ | ⟨z, z2, _⟩
      · rw [← z, nT p hp] at e; cases e
      · rw [z, z2] at e; cases e)
  have TB : ∀ p ∈ cs, LamX.TabB (hidT s1.heap H) mg p.1 p.2 := fun p hp => by
    obtain ⟨oc, us, c1, c2, c3, c4, c5, c6, c7, d1, d2, d3, d4, dr⟩ := hC p hp
    obtain ⟨m, om, m1, m2, m3, m4, m5, m6⟩ := hM
    refine ⟨⟨oc, us, c1, c2, c3, c4, c5, c6, c7, stay d1 (fun z => ?_) (fun _ _ z => ?_), d2, d3, d4, dr⟩, ⟨m, om, m1, m2, fun z => ?_, fun z => ?_, stay m3 (fun z => ?_) (fun _ _ z => ?_), m4, m5, m6⟩, fun z => ?_⟩
    · rw [d3] at z; cases z; simp at d4
    · rw [d3] at z; cases z
    · obtain ⟨o, es, ep, g1, g2, _⟩ := hG
      rw [z, g1] at m3; cases m3
      rw [g2] at m6; cases m6
    · rw [z, hT p hp] at m3; cases m3; cases m6
    · rw [m6] at z; cases z
    · rw [m6] at z; cases z
    · obtain ⟨o, es, ep, g1, g2, _⟩ := hG
      rw [z, hT p hp] at g1; cases g1; cases g2
  have rv := vals_ints hI
  have ok : HOk P w H s1.heap := fun b u h => by
    rcases inv h with ⟨⟨p, hp, e⟩, rfl⟩ | ⟨e, _, rfl⟩
    · rw [← e]; exact hT p hp
    · rw [e]
      have ha2 := ha
      rw [eob] at ha2
      exact ⟨ha, by rw [List.length_map]; exact hLen, vs, _, rv, ha2⟩
  have sq : SqL K H a (ns.map V.int) := by
    cases q : K.lookup a with
    | none =>
      refine .inl (.inr ⟨ob, ?_⟩)
      rw [eH]
      unfold hp0
      rw [if_neg (fun z => by
        obtain ⟨p, h1, h2⟩ := List.any_eq_true.mp z
        exact aTab ⟨p, h1, of_decide_eq_true h2⟩), if_pos (by simp [q])]
    | some o =>
      have z := KX a o q
      rw [ha] at z
      cases z
      exact .inr ⟨ob, vs.toArray, _, q, by rw [eob], by rw [eob], by rw [eob], by rw [List.size_toArray, hI.length]; exact hLen, by simpa using rv⟩
  have lim : (hidT s1.heap H).NoLimit := by
    obtain ⟨mc, l1, l2⟩ := hLim
    exact ⟨mc, names l1, l2⟩
  have env : Env0 P w K mg (hidT s1.heap H) callerA [] s1 H := ⟨rfl, ⟨Kb, names hG, ⟨mb, names hB, hBB⟩, lim⟩, fun _ _ e => of_hidT e, Nat.le_of_eq (hidT_size _ _), trivial, fun b z => (List.not_mem_nil z).elim, ok, .of_eq hGen⟩
  refine codeAny_mono ((F _ Kb (names hG) TB).run callerA [] s1 H ⟨[.ref a], []⟩ [.ref a] [.ref a] _ _ hr env (hBind s1 (.ref a)) (.cons rfl .nil) (hSp H tabAt sq)) fun r s' h => ?_
  cases r with
  | error e => exact (hCX H e s' h).elim
  | ok fl =>
    cases fl with
    | next => exact h.elim
    | brk => exact h.elim
    | cont => exact h.elim
    | ret u =>
      obtain ⟨v, H', e1, e2, un, ok', rl, (rfl : v = .bl true)⟩ := h
      obtain rfl : u = Value.bool true := rl
      have other : ∀ b o, (¬ ∃ p ∈ cs, p.2 = b) → s1.heap.get? b = some o → s'.heap.get? b = some o := fun b o nb hb => by
        cases q : H b with
        | none => exact un.keep b o hb q (List.not_mem_nil) (List.not_mem_nil)
        | some y =>
          rcases inv q with ⟨z, _⟩ | ⟨_, _, rfl⟩
          · exact absurd z nb
          · have g1 := (ok b _ q).1
            have g2 := (ok' b _ (un.frzs b _ _ q)).1
            rw [hb] at g1
            cases g1
            exact g2
      have table : ∀ p ∈ cs, ∃ more : Array Value, s'.heap.get? p.2 = some { cls := .none, data := .fields more } := fun p hp => by
        obtain ⟨more, z⟩ := un.tbls p.2 #[] (tabAt p hp)
        exact ⟨_, ok' p.2 _ z⟩
      refine ⟨rfl, ⟨fun b o hb => ?_, fun b o hb => ?_⟩, e1, e2⟩
      · by_cases z : ∃ p ∈ cs, p.2 = b
        · obtain ⟨p, hp, rfl⟩ := z
          obtain ⟨more, hm⟩ := table p hp
          rw [hT p hp] at hb
          cases hb
          exact .inr (.inl ⟨((hC p hp).tab (hT p hp)).isCodeTable, rfl, #[], more, rfl, by rw [Array.empty_append]; exact hm⟩)
        · exact .inl (other b o z hb)
      · by_cases z : ∃ p ∈ cs, p.2 = b
        · obtain ⟨p, hp, rfl⟩ := z
          obtain ⟨more, hm⟩ := table p hp
          exact ⟨_, hm⟩
        · exact ⟨o, other b o z hb⟩
end
theorem walk_text {l : PySem.W.OpenLaw} {T : TextT} {N : List Addr} {lv : Nat} {q : Program} {loose : List Str} {XP : (Str → Option Value) → Heap → Prop} {d : DefRec} {dl : DefT} {x : Str}
    (hn : l.most = some 63) (hdf : d.params.defaults = []) (hr : Room (4 * (lv + 1) + 1) callerA) (hT : T.okT = true) (hL : lamTop T = true) (hS' : (T.sups.all fun s => supP l.prog s) = true) (hd : T.dOf d.name = some dl) (hi : dl.ini = false) (hdd : dl.dfl = []) (hps : dl.ps = [x]) (htop : T.tops.contains d.name = true)
    (hb : ∀ (kV doc pm : Value) (an : Option Addr) (cdv ct : Value) (u : Value), bindArgs (PySem.W.fnOf dl.name dl.qual dl.params dl.body dl.scope .none kV doc pm an cdv ct) ⟨[u], []⟩ = pure [(x, u)])
    (law : ∀ ns : List Int, ns.length ≤ 63 → ∃ cs', T.conOf (T.en lv) (T.el lv) dl [.lst (ns.map .int)] T.cs0 = .ret (.bl true) cs') :
    PySem.W.WalkO q loose XP (T.hook N).says l.row.toRowW d [] (fun f vs => PySem.call f vs) := by
  refine Att.attach_call hn hdf fun w s₀ s₁ mg mb fa o pm cd doc a vs ns G Y ho hd' hcd hmg hobj hints hlen hg => ?_
  obtain ⟨K, KX, e, ht, hnd⟩ := Y
  have ek : T.okK K = true := congrArg Prod.fst e
  have efs : (T.xdefs.map fun d => obsF K (adP d.at_ K)) ++ (T.sups.map fun s => obsS K (adP s.d.at_ K)) = T.xdefs.map DefT.val ++ T.sups.map SupT.val := congrArg Prod.snd e
  obtain ⟨ef, efs⟩ := List.append_inj efs (by simp)
  have tok : ∀ base : Heap, K.In base → base.Ns mainGlobals mg → (∀ p ∈ T.tabs, LamX.TabB base mg (codeP p K) (tabP p K)) → TOk T ⟨l.prog, w, K, mg, base⟩ := fun base kb nb tb => ⟨ek, ef, efs, hT, hS', ⟨base, kb, nb⟩, tb⟩
  have hdm := dOf_mem hd
  have od : DefOk dl := (tt_of hT).defs dl hdm
  have kfn : fnB K (adP dl.at_ K) dl.qual dl.dfl = true := by
    have k := ek
    unfold TextT.okK at k
    simp only [Bool.and_eq_true] at k
    exact List.all_eq_true.mp k.1.1.1.1.1.1.2 dl hdm
  have eo : obsF K (adP dl.at_ K) = dl.val := by
    obtain ⟨i, hi', e'⟩ := List.mem_iff_getElem.mp (show dl ∈ T.xdefs from List.mem_append_left _ hdm)
    have e1 : T.xdefs[i]? = some dl := by rw [List.getElem?_eq_getElem hi', e']
    have e2 : (T.xdefs.map fun d => obsF K (adP d.at_ K))[i]? = (T.xdefs.map DefT.val)[i]? := by rw [ef]
    rw [List.getElem?_map, List.getElem?_map, e1] at e2
    exact Option.some.inj e2
  obtain ⟨fd, F⟩ := fun_of eo kfn
  have ktop : T.topB K d.name = true := by
    have k := ek
    unfold TextT.okK at k
    simp only [Bool.and_eq_true] at k
    exact List.all_eq_true.mp k.2 d.name (by simpa using htop)
  have ktab : ∀ p ∈ T.tabs, TextT.tabB K p = true := by
    have k := ek
    unfold TextT.okK at k
    simp only [Bool.and_eq_true] at k
    exact List.all_eq_true.mp k.1.1.1.1.1.1.1.2
  have ea : fa = adP dl.at_ K := by
    unfold TextT.topB at ktop
    rw [hd] at ktop
    have z := PySem.W.mg_of KX G.T.g (He.eqO_ok ktop)
    rw [hmg] at z
    cases z
    rfl
  subst ea
  have at_ : ∀ p ∈ T.tabs, tabP p K ≠ a := fun p hp z => by
    have h1 := (ht p hp).1
    rw [z, hobj] at h1
    cases h1
  refine law_run (cs := T.tabs.map fun p => (codeP p K, tabP p K)) (C := CX l.prog w) (k := 4 * (lv + 1) + 1) (fd := fd) (x := x) (sp := spOf K 1 (T.conOf (T.en lv) (T.el lv) dl)) KX G.T.g G.T.b G.T.builtins G.T.nolimit hg (fun p hp => ?_) (fun p hp => ?_) (fun p hp => ?_) G.T.bmain hobj hints (Nat.le_trans hlen (by decide)) hr (fun base kb nb tb => ?_) (fun s u => ?_) (fun H hH hS => ?_) (fun H e s' z => ?_)
  · obtain ⟨p', h1, rfl⟩ := List.mem_map.mp hp
    exact (ht p' h1).1
  · obtain ⟨p', h1, rfl⟩ := List.mem_map.mp hp
    exact (ht p' h1).2
  · obtain ⟨p', h1, rfl⟩ := List.mem_map.mp hp
    exact PySem.W.codeHd_of_K KX (ktab p' h1)
  · have ob := tok base kb nb fun p hp => tb (codeP p K, tabP p K) (List.mem_map.mpr ⟨p, hp, rfl⟩)
    obtain ⟨ih, ihl⟩ := en_ok2 ob hL lv
    have e1 : T.conOf (T.en lv) (T.el lv) dl = runFn dl.ps.length dl.N.length (T.bodyOf (T.en lv) (T.el lv) dl) := by
      unfold TextT.conOf; rw [if_neg (by simp [hi])]
    have := fn_ok (D := ⟨l.prog, w, K, mg, base⟩) (k := 4 * lv + 4) F od.sc od.len fun X hx => bodies ob ih ihl hdm (by omega) hx
    rw [← e1, hps] at this
    exact this
  · obtain ⟨oc, od', dV, kV, doc', pm', an, cdv, ct, osl, rfl, lk, hcd', hD, hK⟩ := F.ex
    rcases hD with ⟨_, rfl⟩ | ⟨e, _⟩
    · exact .of_eq (hb kV doc' pm' an cdv ct u)
    · exact absurd (by rw [hdd]; rfl) e
  · obtain ⟨cs', hc⟩ := law ns hlen
    exact law_sp (tt_of hT) K (fun p hp => hH (codeP p K, tabP p K) (List.mem_map.mpr ⟨p, hp, rfl⟩)) hnd hS at_ hc
  · obtain ⟨_, _, _, _, _, _, _, _, _, _, _, _, z⟩ := z
    exact z
end Zw
namespace Zw
open PySem
/-! parts of the text -/
def dArgs : Stmt → Arguments
  | .FunctionDef (args := a) .. => a
  | _ => ⟨[], [], none, [], [], none, []⟩
def dBody : Stmt → List Stmt
  | .FunctionDef (body := b) .. => b
  | _ => []
def dScope : Stmt → Scope
  | .FunctionDef (scope := sc) .. => sc
  | _ => ⟨.function, [], false, false, []⟩
def clsB : Stmt → List Stmt
  | .ClassDef (body := b) .. => b
  | _ => []
end Zw

namespace Zw
open PySem L2
/-! ### short words for what compiled texts say -/
def En.bin (E : En) (op : Operator) (x y : Dat) : M Dat := runR (Cc.binR ⟨E, [], false, [], none⟩ op) [x, y]
def En.inp (E : En) (op : Operator) (x y : Dat) : M Dat := runR (Cc.inpR ⟨E, [], false, [], none⟩ op) [x, y]
def En.una (E : En) (op : UnaryOp) (x : Dat) : M Dat := runR (Cc.unaR ⟨E, [], false, [], none⟩ op) [x]
def En.cmp (E : En) (op : CmpOp) (x y : Dat) : M Dat := runR (Cc.cmpR ⟨E, [], false, [], none⟩ op) [x, y]
def inn (neg : Bool) (x y : Dat) : M Dat := runR (orR (rInS neg) (p2 (inD neg))) [x, y]
def En.notV (E : En) (x : Dat) : M Dat := bnd (E.tru x) fun c => pur (.bl (!c))
def ixM (x y : Dat) : M Dat := runR rIxD [x, y]
def ixS (i : Nat) (mc : M Dat) : M Dat := bnd (pkSlot i) fun _ => bnd mc fun y => bnd (pkSlot i) fun d => ixM d y
def ixE (ma mc : M Dat) : M Dat := bnd ma fun x => bnd mc fun y => bnd (vw x) fun d => ixM d y
def En.callC (E : En) (ma : M (List Dat)) (v : Dat) : M Dat := match v with
  | .cls c => (if (E.ini c).isSome = true then bnd ma (E.make c) else fail)
  | _ => fail
def En.mth (E : En) (m : Str) (ma : M (List Dat)) (x : Dat) : M Dat := gate (orM (E.mIns m) (orM (E.mCls m) (if m = ("split" : Str) then (fun d => match d with | .str z => some (runR (rSplit z)) | _ => none) else fun _ => none)) x) fun mf => bnd ma mf
def En.isi (E : En) (ds : List Dat) : M Dat := runR (orR E.rIsi E.rIsX) ds
def En.mthK (E : En) (m : Str) (ma mk : M (List Dat)) (ks : List Str) (x : Dat) : M Dat := gate (E.mKw m x) fun q => bnd ma fun ds => bnd mk fun zs => E.callK q.1 (if q.2 = true then x :: ds else ds) (ks.zip zs)
def b1 (r : Rule) (m : M Dat) : M Dat := bnd m fun d => runR r [d]
def bA (r : Rule) (m : M (List Dat)) : M Dat := bnd m (runR (f1R r))
end Zw

namespace Zw
open PySem L2
/-! ### calls by tables -/
theorem en_form (T : TextT) : ∀ l, ∃ c cl, T.en l = T.enOf c cl
  | 0 => ⟨_, _, rfl⟩
  | _ + 1 => ⟨_, _, rfl⟩
/-- what the def's text does, by its tables and those of its lambdas -/
def BodyIs (T : TextT) (d : DefT) (B : En → En → MS) : Prop := ∀ c cl c' cl', T.bodyOf (T.enOf c cl) (some (T.enOf c' cl')) d = B (T.enOf c cl) (T.enOf c' cl')
section
variable {T : TextT} {q x : Str} {d : DefT} {B : En → En → MS} {l n m : Nat}
theorem body_en (hb : BodyIs T d B) : T.bodyOf (T.en (l + 1)) (T.el (l + 1)) d = B (T.en (l + 1)) (T.en l) := by
  obtain ⟨c, cl, hc⟩ := en_form T (l + 1)
  obtain ⟨c', cl', hc'⟩ := en_form T l
  have e : T.el (l + 1) = some (T.en l) := rfl
  rw [e, hc, hc']
  exact hb _ _ _ _
theorem con_en (hb : BodyIs T d B) (hi : d.ini = false) (hn : d.ps.length = n) (hm : d.N.length = m) : T.conOf (T.en (l + 1)) (T.el (l + 1)) d = runFn n m (B (T.en (l + 1)) (T.en l)) := by
  unfold TextT.conOf
  rw [hi, if_neg (by decide), body_en hb, hn, hm]
theorem con_in (hb : BodyIs T d B) (hi : d.ini = true) (hn : d.ps.length = n) (hm : d.N.length = m) : T.conOf (T.en (l + 1)) (T.el (l + 1)) d = runIn n m (B (T.en (l + 1)) (T.en l)) := by
  unfold TextT.conOf
  rw [hi, if_pos rfl, body_en hb, hn, hm]
theorem call_en (hd : T.dOf q = some d) (hi : d.ini = false) (hn : d.ps.length = n) (hm : d.N.length = m) (hf : d.dfl = []) (hb : BodyIs T d B) {ds : List Dat} (hl : ds.length = n) :
    (T.en (l + 2)).call q ds = callM (runFn n m (B (T.en (l + 1)) (T.en l))) ds := by
  have e1 : (T.en (l + 2)).fn q = some (TextT.fiOf (T.conOf (T.en (l + 1)) (T.el (l + 1))) d) := fnF_of hd hi
  unfold En.call
  rw [e1]
  show FnI.run _ ds = _
  unfold FnI.run TextT.fiOf
  dsimp only
  rw [hf]
  simp only [List.map_nil, List.length_nil, Nat.sub_zero, Nat.add_zero, List.drop_nil, List.append_nil]
  rw [if_pos ⟨by omega, by omega⟩, con_en hb hi hn hm]
theorem callK_en (hd : T.dOf q = some d) (hi : d.ini = false) (hn : d.ps.length = n) (hm : d.N.length = m) (hb : BodyIs T d B) {ds vals : List Dat} {kw : List (Str × Dat)} (hv : bindAll d.ps ds kw (d.dfl.map dvDat) = some vals) :
    (T.en (l + 2)).callK q ds kw = callM (runFn n m (B (T.en (l + 1)) (T.en l))) vals := by
  have e1 : (T.en (l + 2)).fn q = some (TextT.fiOf (T.conOf (T.en (l + 1)) (T.el (l + 1))) d) := fnF_of hd hi
  unfold En.callK
  rw [e1]
  show FnI.runK _ ds kw = _
  unfold FnI.runK TextT.fiOf
  dsimp only
  rw [hv]
  dsimp only
  rw [con_en hb hi hn hm]
theorem make_en (hx : T.inis.lookup x = some q) (hd : T.dOf q = some d) (hi : d.ini = true) (hn : d.ps.length = n) (hm : d.N.length = m) (hb : BodyIs T d B) {ds : List Dat} (h1 : n - d.dfl.length ≤ ds.length + 1) (h2 : ds.length + 1 ≤ n) :
    (T.en (l + 2)).make x ds = callM (runIn n m (B (T.en (l + 1)) (T.en l))) (Dat.ins x [] :: (ds ++ (d.dfl.map dvDat).drop (ds.length + 1 + d.dfl.length - n))) := by
  have e1 : (T.en (l + 2)).ini x = some (TextT.fiOf (T.conOf (T.en (l + 1)) (T.el (l + 1))) d) := by
    show T.iniF (T.conOf (T.en (l + 1)) (T.el (l + 1))) (T.lamOf (T.en (l + 1)) (T.el (l + 1))).2 x = _
    unfold TextT.iniF
    rw [hx]
    dsimp only
    rw [hd]
    dsimp only
    rw [if_pos hi]
  unfold En.make
  rw [e1]
  unfold TextT.fiOf
  dsimp only
  rw [List.length_map, hn, if_pos ⟨h1, h2⟩, con_in hb hi hn hm]
theorem makeK_en (hx : T.inis.lookup x = some q) (hd : T.dOf q = some d) (hi : d.ini = true) (hn : d.ps.length = n) (hm : d.N.length = m) (hb : BodyIs T d B) {ds vals : List Dat} {kw : List (Str × Dat)} {rest : List (Option Dat)} (hv : bindAll d.ps (none :: ds.map some) (kw.map fun p => (p.1, some p.2)) ((d.dfl.map dvDat).map some) = some (none :: rest)) (hr : allSome rest = some vals) :
    (T.en (l + 2)).makeK x ds kw = callM (runIn n m (B (T.en (l + 1)) (T.en l))) (Dat.ins x [] :: vals) := by
  have e1 : (T.en (l + 2)).ini x = some (TextT.fiOf (T.conOf (T.en (l + 1)) (T.el (l + 1))) d) := by
    show T.iniF (T.conOf (T.en (l + 1)) (T.el (l + 1))) (T.lamOf (T.en (l + 1)) (T.el (l + 1))).2 x = _
    unfold TextT.iniF
    rw [hx]
    dsimp only
    rw [hd]
    dsimp only
    rw [if_pos hi]
  unfold En.makeK
  rw [e1]
  unfold TextT.fiOf
  dsimp only
  rw [hv]
  dsimp only
  rw [hr]
  dsimp only
  rw [con_in hb hi hn hm]
theorem ini_en (hx : T.inis.lookup x = some q) (hd : T.dOf q = some d) (hi : d.ini = true) (hn : d.ps.length = n) (hm : d.N.length = m) (hb : BodyIs T d B) : (T.en (l + 2)).ini x = some ⟨runIn n m (B (T.en (l + 1)) (T.en l)), n, d.dfl.map dvDat, adP d.at_, d.ps⟩ := by
  show T.iniF (T.conOf (T.en (l + 1)) (T.el (l + 1))) (T.lamOf (T.en (l + 1)) (T.el (l + 1))).2 x = _
  unfold TextT.iniF
  rw [hx]
  dsimp only
  rw [hd]
  dsimp only
  rw [if_pos hi]
  unfold TextT.fiOf
  rw [con_in hb hi hn hm, hn]
/-! defs that say super().__init__() -/
def SupIs (T : TextT) (s : SupT) (B : En → En → MS) : Prop := ∀ c cl c' cl', (comp (some (T.enOf c' cl')) (TextT.ccOf (T.enOf c cl) (some (T.enOf c' cl')) s.d) T.fuel).cB s.d.scope s.d.body.tail = B (T.enOf c cl) (T.enOf c' cl')
variable {s : SupT}
theorem sup_body (hb : SupIs T s B) : T.supB' (T.en (l + 1)) (T.el (l + 1)) s = seqS (superS (T.en (l + 1)) s.tab) (B (T.en (l + 1)) (T.en l)) := by
  obtain ⟨c, cl, hc⟩ := en_form T (l + 1)
  obtain ⟨c', cl', hc'⟩ := en_form T l
  have e : T.el (l + 1) = some (T.en l) := rfl
  unfold TextT.supB'
  rw [e, hc, hc', hb]
theorem ini_sup (hx : T.inis.lookup x = some q) (hd : T.dOf q = none) (hs : T.sOf q = some s) (hn : s.d.ps.length = n) (hm : s.d.N.length = m) (hb : SupIs T s B) : (T.en (l + 2)).ini x = some ⟨runIn n m (seqS (superS (T.en (l + 1)) s.tab) (B (T.en (l + 1)) (T.en l))), n, s.d.dfl.map dvDat, adP s.d.at_, s.d.ps⟩ := by
  show T.iniF (T.conOf (T.en (l + 1)) (T.el (l + 1))) (T.lamOf (T.en (l + 1)) (T.el (l + 1))).2 x = _
  unfold TextT.iniF
  rw [hx]
  dsimp only
  rw [hd]
  dsimp only
  rw [hs]
  dsimp only
  unfold TextT.fiS TextT.lamOf
  dsimp only
  rw [sup_body hb, hn, hm]
theorem make_sup (hx : T.inis.lookup x = some q) (hd : T.dOf q = none) (hs : T.sOf q = some s) (hn : s.d.ps.length = n) (hm : s.d.N.length = m) (hb : SupIs T s B) {ds : List Dat} (h1 : n - s.d.dfl.length ≤ ds.length + 1) (h2 : ds.length + 1 ≤ n) :
    (T.en (l + 2)).make x ds = callM (runIn n m (seqS (superS (T.en (l + 1)) s.tab) (B (T.en (l + 1)) (T.en l)))) (Dat.ins x [] :: (ds ++ (s.d.dfl.map dvDat).drop (ds.length + 1 + s.d.dfl.length - n))) := by
  unfold En.make
  rw [ini_sup hx hd hs hn hm hb]
  dsimp only
  rw [List.length_map, if_pos ⟨h1, h2⟩]
theorem makeK_sup (hx : T.inis.lookup x = some q) (hd : T.dOf q = none) (hs : T.sOf q = some s) (hn : s.d.ps.length = n) (hm : s.d.N.length = m) (hb : SupIs T s B) {ds vals : List Dat} {kw : List (Str × Dat)} {rest : List (Option Dat)} (hv : bindAll s.d.ps (none :: ds.map some) (kw.map fun p => (p.1, some p.2)) ((s.d.dfl.map dvDat).map some) = some (none :: rest)) (hr : allSome rest = some vals) :
    (T.en (l + 2)).makeK x ds kw = callM (runIn n m (seqS (superS (T.en (l + 1)) s.tab) (B (T.en (l + 1)) (T.en l)))) (Dat.ins x [] :: vals) := by
  unfold En.makeK
  rw [ini_sup hx hd hs hn hm hb]
  dsimp only
  rw [hv]
  dsimp only
  rw [hr]
theorem z_super {E : En} {tab : List (Str × Str)} {c p : Str} {fs : List (Str × Dat)} {fi : FnI} {d : Dat} {env : List Slot} {cs cs' : List (Option Dat)} (h1 : tab.lookup c = some p) (h2 : E.ini p = some fi) (h3 : fi.par = fi.dfl.length + 1) (h4 : fi.con (.ins c fs :: fi.dfl) cs = .ret d cs') : superS E tab ⟨.slf (.ins c fs) :: env, cs⟩ = .nx ⟨.slf d :: env, cs'⟩ := by
  unfold superS
  dsimp only [List.getElem?_cons_zero]
  rw [h1]
  dsimp only
  rw [h2]
  dsimp only
  rw [if_pos h3, h4]
  rfl
/-- a def that is handed a lambda -/
theorem lamf_en (hd : T.dOf x = some d) (hi : d.ini = false) (hl : d.lam = true) (hm : d.N.length = m) (hb : BodyIs T d B) : (T.en (l + 2)).lamf x = some ⟨fun lc cs => endFn (B (T.en (l + 1)) (T.en l) ⟨.lam lc :: List.replicate (m - 1) .unset, cs⟩), adP d.at_⟩ := by
  show T.lamF (T.lamOf (T.en (l + 1)) (T.el (l + 1))) x = _
  unfold TextT.lamF
  rw [hd]
  dsimp only
  rw [if_pos ⟨hl, hi⟩]
  unfold TextT.lamOf
  dsimp only
  rw [body_en hb, hm]
end
/-- a run without a change of cells -/
theorem fn_pur {n m : Nat} {B : MS} {ds : List Dat} {d : Dat} (hl : ds.length = n) (h : ∀ cs, endFn (B ⟨envOf m ds, cs⟩) = .ret d cs) : callM (runFn n m B) ds = pur d := by
  funext s
  unfold callM runFn
  rw [if_pos hl, h s.cs]
  rfl
theorem in_pur {n m : Nat} {B : MS} {d0 d : Dat} {ds : List Dat} (hl : ds.length + 1 = n) (h : ∀ cs, endIn (B ⟨envIn m d0 ds, cs⟩) = .ret d cs) : callM (runIn n m B) (d0 :: ds) = pur d := by
  funext s
  unfold callM runIn
  dsimp only
  rw [if_pos hl, h s.cs]
  rfl
@[simp] theorem z_ert (d : Dat) (s : Sto) : endFn (.rt d s) = .ret d s.cs := (rfl)
@[simp] theorem z_enx (s : Sto) : endFn (.nx s) = .ret .non s.cs := (rfl)
@[simp] theorem z_eex (x : Dat) (s : Sto) : endFn (.exc x s) = .exc x s.cs := (rfl)
@[simp] theorem z_inx (s : Sto) : endIn (.nx s) = match s.env[(0 : Nat)]? with
  | some (Slot.slf d) => .ret d s.cs
  | _ => .stuck := (rfl)
@[simp] theorem z_iex (x : Dat) (s : Sto) : endIn (.exc x s) = .exc x s.cs := (rfl)
theorem bnd_pur {α β : Type} (a : α) (f : α → M β) : bnd (pur a) f = f a := rfl
theorem bnd_app {α β : Type} (m : M α) (f : α → M β) (s : Sto) : bnd m f s = (m s).bnd f := rfl
theorem pur_app {α : Type} (a : α) (s : Sto) : pur a s = .ret a s := rfl
theorem ret_bnd {α β : Type} (a : α) (s : Sto) (f : α → M β) : (Out.ret a s).bnd f = f a s := rfl
end Zw

namespace Zw
open PySem L2
/-! ### runs, step by step -/
section
variable {α β : Type}
@[simp] theorem z_bnd (m : M α) (f : α → M β) (s : Sto) : bnd m f s = (m s).bnd f := (rfl)
@[simp] theorem z_pur (a : α) (s : Sto) : pur a s = .ret a s := (rfl)
@[simp] theorem z_ret (a : α) (s : Sto) (f : α → M β) : (Out.ret a s).bnd f = f a s := (rfl)
@[simp] theorem z_exc (x : Dat) (s : Sto) (f : α → M β) : (Out.exc x s : Out α).bnd f = .exc x s := (rfl)
@[simp] theorem z_stk (f : α → M β) : (Out.stuck : Out α).bnd f = .stuck := (rfl)
@[simp] theorem z_fail (s : Sto) : (fail : M α) s = .stuck := (rfl)
theorem z_bndp (a : α) (f : α → M β) : bnd (pur a) f = f a := rfl
@[simp] theorem z_seq (m f : MS) (s : Sto) : seqS m f s = match m s with
  | .nx s' => f s'
  | o => o := (rfl)
@[simp] theorem z_bndS (m : M α) (f : α → MS) (s : Sto) : bndS m f s = match m s with
  | .ret a s' => f a s'
  | .exc x s' => .exc x s'
  | .stuck => .stuck := (rfl)
@[simp] theorem z_next (s : Sto) : nextS s = .nx s := (rfl)
@[simp] theorem z_asg (i : Nat) (d : Dat) (e : List Slot) (c : List (Option Dat)) : asgS i d ⟨e, c⟩ = .nx ⟨e.set i (.val d), c⟩ := (rfl)
@[simp] theorem z_retS (d : Dat) (s : Sto) : retS d s = .rt d s := (rfl)
@[simp] theorem z_ifS (t : M Bool) (a b : MS) (s : Sto) : ifS t a b s = bndS t (fun c => if c = true then a else b) s := (rfl)
@[simp] theorem z_stuckS (s : Sto) : stuckS s = .stuck := (rfl)
@[simp] theorem z_rd (i : Nat) (s : Sto) : rdSlot i s = match s.env[i]? with
  | some (.val d) => .ret d s
  | some (.own d) => .ret d ⟨s.env.set i (.val d), s.cs⟩
  | _ => .stuck := (rfl)
@[simp] theorem z_andV (a b : M Dat) (s : Sto) : andV a b s = (a s).bnd fun x => match x with | .bl c => if c = true then b else pur (.bl false) | _ => fail := (rfl)
@[simp] theorem z_orV (a b : M Dat) (s : Sto) : orV a b s = (a s).bnd fun x => match x with | .bl c => if c = true then pur (.bl true) else b | _ => fail := (rfl)
@[simp] theorem z_ifM (t : M Bool) (a b : M α) (s : Sto) : ifM t a b s = (t s).bnd fun c => if c = true then a else b := (rfl)
@[simp] theorem z_notT (a : M Bool) (s : Sto) : notT a s = (a s).bnd fun c => pur (!c) := (rfl)
@[simp] theorem z_andT (a b : M Bool) (s : Sto) : andT a b s = (a s).bnd fun c => if c = true then b else pur false := (rfl)
@[simp] theorem z_orT (a b : M Bool) (s : Sto) : orT a b s = (a s).bnd fun c => if c = true then pur true else b := (rfl)
@[simp] theorem z_consA (a : M Dat) (b : M (List Dat)) (s : Sto) : consA a b s = (a s).bnd fun d => bnd b fun ds => pur (d :: ds) := (rfl)
@[simp] theorem z_nilA (s : Sto) : nilA s = .ret [] s := (rfl)
@[simp] theorem z_tupM (a : M (List Dat)) (s : Sto) : tupM a s = (a s).bnd fun ds => if ds.length ≤ sizeLine then pur (.tup ds) else fail := (rfl)
@[simp] theorem z_lstM (a : M (List Dat)) (s : Sto) : lstM a s = (a s).bnd fun ds => if ds.length ≤ sizeLine then pur (.lst ds) else fail := (rfl)
@[simp] theorem z_size : sizeLine = 16777216 := sizeLine_eq
@[simp] theorem z_notV (E : En) (x : Dat) (s : Sto) : E.notV x s = (E.tru x s).bnd fun c => pur (.bl (!c)) := (rfl)
@[simp] theorem z_par2 (i j : Nat) (a b : Dat) (s : Sto) : par2 i j [a, b] s = .nx ⟨(s.env.set i (.val a)).set j (.val b), s.cs⟩ := (rfl)
@[simp] theorem z_b1 (r : Rule) (m : M Dat) (s : Sto) : b1 r m s = (m s).bnd fun d => runR r [d] := (rfl)
@[simp] theorem z_bA (r : Rule) (m : M (List Dat)) (s : Sto) : bA r m s = (m s).bnd (runR (f1R r)) := (rfl)
@[simp] theorem z_f1R (r : Rule) (d : Dat) : runR (f1R r) [d] = runR r [d] := (rfl)
@[simp] theorem z_part0 (s : Sto) : partM none s = .ret none s := (rfl)
@[simp] theorem z_part1 (m : M Dat) (s : Sto) : partM (some m) s = (m s).bnd fun d => match d with | .int i => pur (some i) | _ => fail := (rfl)
@[simp] theorem z_ixS (i : Nat) (m : M Dat) (s : Sto) : ixS i m s = (pkSlot i s).bnd fun _ => bnd m fun y => bnd (pkSlot i) fun d => ixM d y := (rfl)
@[simp] theorem z_ixE (a m : M Dat) (s : Sto) : ixE a m s = (a s).bnd fun x => bnd m fun y => bnd (vw x) fun d => ixM d y := (rfl)
@[simp] theorem z_unp (n : Nat) (m : List Dat → MS) (ds : List Dat) : unpG n m (.tup ds) = if ds.length = n then m ds else fun _ => .stuck := (rfl)
@[simp] theorem z_unl (n : Nat) (m : List Dat → MS) (ds : List Dat) : unpG n m (.lst ds) = if ds.length = n then m ds else fun _ => .stuck := (rfl)
@[simp] theorem z_consG (a : Dat → MS) (r : List Dat → MS) (d : Dat) (ds : List Dat) : consG a r (d :: ds) = seqS (a d) (r ds) := (rfl)
@[simp] theorem z_nilG : nilG [] = nextS := (rfl)
@[simp] theorem z_env (N : Nat) (ds : List Dat) : envOf N ds = ds.map .val ++ List.replicate (N - ds.length) .unset := (rfl)
@[simp] theorem z_envI (N : Nat) (d0 : Dat) (ds : List Dat) : envIn N d0 ds = .slf d0 :: (ds.map .val ++ List.replicate (N - (ds.length + 1)) .unset) := (rfl)
@[simp] theorem z_for0 (g : Dat → MS) (b : MS) (s : Sto) : forM g b [] s = .nx s := (rfl)
@[simp] theorem z_for1 (g : Dat → MS) (b : MS) (d : Dat) (ds : List Dat) (s : Sto) : forM g b (d :: ds) s = match g d s with
    | .nx s1 => (match b s1 with
      | .nx s2 => forM g b ds s2
      | .ct s2 => forM g b ds s2
      | .bk s2 => .nx s2
      | o => o)
    | _ => .stuck := (rfl)
@[simp] theorem z_itT (ds : List Dat) : itemsM (.tup ds) = pur ds := (rfl)
@[simp] theorem z_itL (ds : List Dat) : itemsM (.lst ds) = pur ds := (rfl)
@[simp] theorem z_fld (E : En) (i : Nat) (f : Str) (d : Dat) (s : Sto) : E.fldS i f d s = match s.env[i]? with
  | some (.slf (.ins c fs)) => if E.fld c f = true ∧ fs.length < 1000 then .nx ⟨s.env.set i (.slf (.ins c (putD f d fs))), s.cs⟩ else .stuck
  | _ => .stuck := (rfl)
@[simp] theorem z_vwi (i : Int) (s : Sto) : vw (.int i) s = .ret (.int i) s := (rfl)
@[simp] theorem z_vws (i : Str) (s : Sto) : vw (.str i) s = .ret (.str i) s := (rfl)
@[simp] theorem z_vwt (i : List Dat) (s : Sto) : vw (.tup i) s = .ret (.tup i) s := (rfl)
@[simp] theorem z_vwl (i : List Dat) (s : Sto) : vw (.lst i) s = .ret (.lst i) s := (rfl)
@[simp] theorem z_pk (i : Nat) (s : Sto) : pkSlot i s = match pkD i s with
  | some d => .ret d s
  | none => .stuck := (rfl)
@[simp] theorem z_pkD (i : Nat) (s : Sto) : pkD i s = match s.env[i]? with
  | some (.val d) => vwD s d
  | some (.own d) => if isCont d = true then some d else none
  | _ => none := (rfl)
@[simp] theorem z_vwDi (s : Sto) (i : Int) : vwD s (.int i) = some (.int i) := (rfl)
@[simp] theorem z_vwDs (s : Sto) (i : Str) : vwD s (.str i) = some (.str i) := (rfl)
@[simp] theorem z_vwDt (s : Sto) (i : List Dat) : vwD s (.tup i) = some (.tup i) := (rfl)
@[simp] theorem z_vwDl (s : Sto) (i : List Dat) : vwD s (.lst i) = some (.lst i) := (rfl)
end
/-! values -/
section
variable (E : En) (i j : Int) (a b : Bool) (x y : Str)
@[simp] theorem z_trub : E.tru (.bl b) = pur b := (rfl)
@[simp] theorem z_trui : E.tru (.int i) = pur (i != 0) := (rfl)
@[simp] theorem z_trun : E.tru .non = pur false := (rfl)
@[simp] theorem z_add : E.bin .Add (.int i) (.int j) = pur (.int (i + j)) := (rfl)
@[simp] theorem z_sub : E.bin .Sub (.int i) (.int j) = pur (.int (i - j)) := (rfl)
theorem z_mul (h : mulOk i j = true) : E.bin .Mult (.int i) (.int j) = pur (.int (i * j)) := by
  show runR (orR rMulI _) _ = _
  unfold runR orR rMulI p2 i2
  dsimp only
  rw [if_pos h]; rfl
theorem z_div (h : divOk i j = true) : E.bin .FloorDiv (.int i) (.int j) = pur (.int (i.fdiv j)) := by
  show runR (orR rDivI _) _ = _
  unfold runR orR rDivI p2 i2
  dsimp only
  rw [if_pos h]; rfl
theorem z_mod (h : j ≠ 0) : E.bin .Mod (.int i) (.int j) = pur (.int (i.fmod j)) := by
  show runR (orR rModI _) _ = _
  unfold runR orR rModI p2 i2
  dsimp only
  rw [if_pos (decide_eq_true h)]; rfl
theorem z_pow (h : powOk i j = true) : E.bin .Pow (.int i) (.int j) = pur (.int (i ^ j.toNat)) := by
  show runR rPowI _ = _
  unfold runR rPowI p2 i2
  dsimp only
  rw [if_pos h]; rfl
@[simp] theorem z_neg : E.una .USub (.int i) = pur (.int (-i)) := (rfl)
@[simp] theorem z_lt : E.cmp .Lt (.int i) (.int j) = pur (.bl (decide (i < j))) := (rfl)
@[simp] theorem z_le : E.cmp .LtE (.int i) (.int j) = pur (.bl (decide (i ≤ j))) := (rfl)
@[simp] theorem z_gt : E.cmp .Gt (.int i) (.int j) = pur (.bl (decide (j < i))) := (rfl)
@[simp] theorem z_ge : E.cmp .GtE (.int i) (.int j) = pur (.bl (decide (j ≤ i))) := (rfl)
@[simp] theorem z_eqi : E.cmp .Eq (.int i) (.int j) = pur (.bl (decide (i = j))) := (rfl)
@[simp] theorem z_nei : E.cmp .NotEq (.int i) (.int j) = pur (.bl (!decide (i = j))) := (rfl)
@[simp] theorem z_eqb : E.cmp .Eq (.bl a) (.bl b) = pur (.bl (decide (a = b))) := (rfl)
@[simp] theorem z_neb : E.cmp .NotEq (.bl a) (.bl b) = pur (.bl (!decide (a = b))) := (rfl)
@[simp] theorem z_eqs : E.cmp .Eq (.str x) (.str y) = pur (.bl (decide (x = y))) := (rfl)
@[simp] theorem z_nes : E.cmp .NotEq (.str x) (.str y) = pur (.bl (!decide (x = y))) := (rfl)
@[simp] theorem z_isn (d : Dat) : E.cmp .Is d .non = pur (.bl (isNon d)) := (rfl)
@[simp] theorem z_isnn (d : Dat) : E.cmp .IsNot d .non = pur (.bl (!isNon d)) := (rfl)
@[simp] theorem z_isi : isNon (.int i) = false := (rfl)
@[simp] theorem z_isno : isNon .non = true := (rfl)
@[simp] theorem z_absi (r : Rule) : runR (orR rAbsI r) [.int i] = pur (.int (i.natAbs : Nat)) := by
  have e : (if i < 0 then -i else i) = ((i.natAbs : Nat) : Int) := by split <;> omega
  rw [← e]; rfl
@[simp] theorem z_inti : runR rIntC [.int i] = pur (.int i) := (rfl)
@[simp] theorem z_intb : runR rIntC [.bl b] = pur (.int (if b then 1 else 0)) := (rfl)
@[simp] theorem z_bool (d : Dat) : runR E.rBool [d] = bnd (E.tru d) fun b => pur (.bl b) := (rfl)
@[simp] theorem z_isii : runR E.rIsi [.int i, .ty "int"] = pur (.bl true) := by kernel_rfl
@[simp] theorem z_isib : runR E.rIsi [.int i, .ty "bool"] = pur (.bl false) := by kernel_rfl
@[simp] theorem z_issb : runR E.rIsi [.str x, .ty "str"] = pur (.bl true) := by kernel_rfl
end
/-! sizes -/
/-- a number of less than n bits -/
def Sm (n : Nat) (i : Int) : Prop := i.natAbs < 2 ^ n
theorem Sm.mono {n m : Nat} {i : Int} (h : Sm n i) (l : n ≤ m) : Sm m i := Nat.lt_of_lt_of_le h (Nat.pow_le_pow_right (by decide) l)
theorem Sm.log {n : Nat} {i : Int} (h : Sm n i) (hn : 0 < n) : i.natAbs.log2 < n := by
  by_cases z : i.natAbs = 0
  · rw [z]; exact hn
  · exact (Nat.log2_lt z).mpr h
theorem Sm.mul {n m : Nat} {i j : Int} (h : Sm n i) (h' : Sm m j) : Sm (n + m) (i * j) := by
  unfold Sm at *
  rw [Int.natAbs_mul, Nat.pow_add]
  exact Nat.mul_lt_mul'' h h'
theorem Sm.add {n m : Nat} {i j : Int} (h : Sm n i) (h' : Sm m j) : Sm (n + m + 1) (i + j) := by
  unfold Sm at *
  have h1 : 2 ^ n ≤ 2 ^ (n + m) := Nat.pow_le_pow_right (by decide) (by omega)
  have h2 : 2 ^ m ≤ 2 ^ (n + m) := Nat.pow_le_pow_right (by decide) (by omega)
  rw [Nat.pow_succ]
  have := Int.natAbs_add_le i j
  omega
theorem Sm.add1 {n : Nat} {i j : Int} (h : Sm n i) (h' : Sm n j) : Sm (n + 1) (i + j) := by
  unfold Sm at *
  rw [Nat.pow_succ]
  have := Int.natAbs_add_le i j
  omega
theorem Sm.neg {n : Nat} {i : Int} (h : Sm n i) : Sm n (-i) := by unfold Sm at *; rw [Int.natAbs_neg]; exact h
theorem Sm.sub {n m : Nat} {i j : Int} (h : Sm n i) (h' : Sm m j) : Sm (n + m + 1) (i - j) := by rw [Int.sub_eq_add_neg]; exact h.add h'.neg
theorem Sm.sub1 {n : Nat} {i j : Int} (h : Sm n i) (h' : Sm n j) : Sm (n + 1) (i - j) := by rw [Int.sub_eq_add_neg]; exact h.add1 h'.neg
theorem Sm.mulOk {n m : Nat} {i j : Int} (h : Sm n i) (h' : Sm m j) (l : n + m ≤ 1000000) (hn : 0 < n) (hm : 0 < m) : Zw.mulOk i j = true := by
  unfold Zw.mulOk
  have := h.log hn
  have := h'.log hm
  rw [decide_eq_true (show i.natAbs.log2 + j.natAbs.log2 < 1000000 by omega), Bool.or_true]
theorem Sm.divOk {n : Nat} {i j : Int} (h : Sm n j) (l : n ≤ 9000) (hn : 0 < n) (z : j ≠ 0) : Zw.divOk i j = true := by
  unfold Zw.divOk
  have := h.log hn
  rw [decide_eq_true z, decide_eq_true (show j.natAbs.log2 < 9000 by omega)]; rfl
/-! loops -/
theorem while_true {c : M Bool} {b : MS} {s s1 s2 : Sto} (hc : c s = .ret true s1) (hb : b s1 = .nx s2) : whileM c b s = whileM c b s2 := by
  have st : ∀ n, whileN c b (n + 1) s = whileN c b n s2 := fun n => by
    show (match c s with
    | .ret true s1 => (match b s1 with
      | .nx s2 => whileN c b n s2
      | .ct s2 => whileN c b n s2
      | .bk s2 => .nx s2
      | o => o)
    | .ret false s1 => .nx s1
    | .exc x s1 => .exc x s1
    | .stuck => .stuck) = _
    rw [hc]; dsimp only; rw [hb]
  by_cases h : ∃ n, whileN c b n s2 ≠ .stuck
  · obtain ⟨n, hn⟩ := h
    rw [whileM_of hn, whileM_of (n := n + 1) (by rw [st]; exact hn), st]
  · have h1 : ¬ ∃ n, whileN c b n s ≠ .stuck := fun ⟨n, hn⟩ => by
      cases n with
      | zero => exact hn rfl
      | succ n => rw [st] at hn; exact h ⟨n, hn⟩
    unfold whileM
    rw [dif_neg h, dif_neg h1]
theorem while_false {c : M Bool} {b : MS} {s s1 : Sto} (hc : c s = .ret false s1) : whileM c b s = .nx s1 := by
  have st : whileN c b 1 s = .nx s1 := by
    show (match c s with
    | .ret true s1 => (match b s1 with
      | .nx s2 => whileN c b 0 s2
      | .ct s2 => whileN c b 0 s2
      | .bk s2 => .nx s2
      | o => o)
    | .ret false s1 => .nx s1
    | .exc x s1 => .exc x s1
    | .stuck => .stuck) = _
    rw [hc]
  rw [whileM_of (n := 1) (by rw [st]; exact fun z => by cases z), st]
end Zw

namespace Zw
open PySem L2
/-! ### comprehensions, step by step -/
theorem z_lc (vs : List Nat) (mi : M (List Dat)) (g : Dat → MS) (tt : M Bool) (te : M Dat) (s : Sto) : lcM vs mi g tt te s = (mi s).bnd fun ds => fun s =>
  if plainAt s.env vs = true ∧ ds.length ≤ sizeLine then (match lcLoop vs g tt te ds [] ⟨wipeE s.env vs, s.cs⟩ with
    | .ret acc s' => .ret (.lst acc) ⟨restE s.env s'.env vs, s'.cs⟩
    | _ => .stuck) else .stuck := (rfl)
theorem z_lc0 (vs : List Nat) (g : Dat → MS) (tt : M Bool) (te : M Dat) (acc : List Dat) (s : Sto) : lcLoop vs g tt te [] acc s = .ret acc s := (rfl)
theorem z_lc1 (vs : List Nat) (g : Dat → MS) (tt : M Bool) (te : M Dat) (d : Dat) (ds acc : List Dat) (s : Sto) : lcLoop vs g tt te (d :: ds) acc s = (match g d s with
    | .nx s1 => (match tt s1 with
      | .ret false s2 => lcLoop vs g tt te ds acc ⟨wipeE s2.env vs, s2.cs⟩
      | .ret true s2 => (match te s2 with
        | .ret y s3 => lcLoop vs g tt te ds (acc ++ [y]) ⟨wipeE s3.env vs, s3.cs⟩
        | _ => .stuck)
      | _ => .stuck)
    | _ => .stuck) := (rfl)
@[simp] theorem z_wipe1 (env : List Slot) (i : Nat) : wipeE env [i] = env.set i .unset := (rfl)
@[simp] theorem z_rest1 (env env' : List Slot) (i : Nat) : restE env env' [i] = env'.set i (env.getD i .unset) := (rfl)
/-- one name, one value for each item, nothing else changes -/
theorem lc_map {i : Nat} {te : M Dat} {f : Dat → Dat} {env : List Slot} {cs : List (Option Dat)} (hi : i < env.length) : ∀ (ds acc : List Dat), (∀ d ∈ ds, te ⟨env.set i (.val d), cs⟩ = .ret (f d) ⟨env.set i (.val d), cs⟩) →
    lcLoop [i] (asgS i) (pur true) te ds acc ⟨env.set i .unset, cs⟩ = .ret (acc ++ ds.map f) ⟨env.set i .unset, cs⟩
  | [], acc, _ => by rw [z_lc0]; simp
  | d :: ds, acc, h => by
    rw [z_lc1]
    simp only [z_asg, z_pur, List.set_set]
    rw [h d (by simp)]
    dsimp only
    rw [z_wipe1, List.set_set, lc_map hi ds _ fun e he => h e (List.mem_cons_of_mem _ he)]
    simp
theorem rest_id {env : List Slot} {i : Nat} (hi : i < env.length) : (env.set i .unset).set i (env.getD i .unset) = env := by
  rw [List.set_set]
  apply List.ext_getElem?
  intro j
  by_cases h : j = i
  · subst h
    rw [List.getElem?_set_self hi, List.getD_eq_getElem?_getD, List.getElem?_eq_getElem hi]; rfl
  · rw [List.getElem?_set_ne (Ne.symm h)]
theorem lc_pure {i : Nat} {te : M Dat} {f : Dat → Dat} {env : List Slot} {cs : List (Option Dat)} {ds : List Dat} (hi : i < env.length) (hp : plainAt env [i] = true) (hl : ds.length ≤ 16777216) (h : ∀ d ∈ ds, te ⟨env.set i (.val d), cs⟩ = .ret (f d) ⟨env.set i (.val d), cs⟩) (mi : M (List Dat)) (hm : mi ⟨env, cs⟩ = .ret ds ⟨env, cs⟩) :
    lcM [i] mi (asgS i) (pur true) te ⟨env, cs⟩ = .ret (.lst (ds.map f)) ⟨env, cs⟩ := by
  rw [z_lc, hm, z_ret]
  dsimp only
  rw [if_pos ⟨hp, by simpa using hl⟩, z_wipe1, lc_map hi ds [] h]
  dsimp only
  rw [z_rest1, rest_id hi]; rfl
/-! lengths, places -/
@[simp] theorem z_lenL (ds : List Dat) : runR Zw.rLen [.lst ds] = pur (.int ds.length) := (rfl)
@[simp] theorem z_lenT (ds : List Dat) : runR Zw.rLen [.tup ds] = pur (.int ds.length) := (rfl)
theorem z_lenS {z : Str} (h : z.length ≤ 16777216) : runR Zw.rLen [.str z] = pur (.int z.length) := by
  have h : z.length ≤ sizeLine := by rw [z_size]; exact h
  unfold runR Zw.rLen p1
  dsimp only
  rw [if_pos h]; rfl
theorem z_ix {ds : List Dat} {k : Nat} {d : Dat} (h : ds[k]? = some d) : ixM (.lst ds) (.int k) = pur d ∧ ixM (.tup ds) (.int k) = pur d := by
  have hk := (List.getElem?_eq_some_iff.mp h).1
  have e : atI ds (k : Int) = some d := by
    unfold atI ixN
    rw [if_pos (by omega), if_pos (by omega)]
    simpa using h
  unfold ixM runR Zw.rIxD p2 ixD
  dsimp only
  rw [e]
  exact ⟨rfl, rfl⟩
@[simp] theorem z_ix0 (a : Dat) (l : List Dat) : ixM (.lst (a :: l)) (.int 0) = pur a := (z_ix (k := 0) rfl).1
@[simp] theorem z_ix1 (a b : Dat) (l : List Dat) : ixM (.lst (a :: b :: l)) (.int 1) = pur b := (z_ix (k := 1) rfl).1
@[simp] theorem z_ix2 (a b c : Dat) (l : List Dat) : ixM (.lst (a :: b :: c :: l)) (.int 2) = pur c := (z_ix (k := 2) rfl).1
@[simp] theorem z_it0 (a : Dat) (l : List Dat) : ixM (.tup (a :: l)) (.int 0) = pur a := (z_ix (k := 0) rfl).2
@[simp] theorem z_it1 (a b : Dat) (l : List Dat) : ixM (.tup (a :: b :: l)) (.int 1) = pur b := (z_ix (k := 1) rfl).2
@[simp] theorem z_it2 (a b c : Dat) (l : List Dat) : ixM (.tup (a :: b :: c :: l)) (.int 2) = pur c := (z_ix (k := 2) rfl).2
@[simp] theorem z_nin2 (a b : Int) : inn true .non (.lst [.int a, .int b]) = pur (.bl true) := by kernel_rfl
/-! signs -/
def sign (c : Nat) : Dat := .str ⟨#[c]⟩
@[simp] theorem z_itS (z : Str) : itemsM (.str z) = pur (z.cps.toList.map sign) := (rfl)
theorem z_in (c : Nat) (z : Str) : inn false (sign c) (.str z) = pur (.bl (decide (c ∈ z.cps.toList))) := by
  show runR (orR (rInS false) _) [.str ⟨⟨[c]⟩⟩, .str z] = _
  rfl
theorem bools_map {α : Type} (p : α → Bool) : ∀ l : List α, boolsD (l.map fun c => Dat.bl (p c)) = some (l.map p)
  | [] => rfl
  | c :: l => by
    show (boolsD (l.map fun c => Dat.bl (p c))).map (p c :: ·) = _
    rw [bools_map p l]; rfl
theorem z_all {α : Type} (p : α → Bool) (l : List α) : runR rAllC [.lst (l.map fun c => Dat.bl (p c))] = pur (.bl (l.all p)) := by
  show (match ((match (Dat.lst (l.map fun c => Dat.bl (p c))) with | .lst ds => (boolsD ds).map (fun (bs : List Bool) => Dat.bl (bs.all id)) | _ => none).map pur) with | some m => m | none => fail) = _
  dsimp only
  rw [bools_map]
  show pur (Dat.bl ((l.map p).all id)) = _
  rw [List.all_map]; rfl
end Zw
namespace Zw
open PySem L2 TL
/-! numbers as texts -/
abbrev nstr (i : Int) : Str := Str.ofString (toString i)
def intL (i : Int) : List Nat := if i < 0 then 45 :: numL i.natAbs else numL i.natAbs
theorem tl_int (i : Int) : tl (nstr i) = intL i := by
  unfold intL
  cases i with
  | ofNat n =>
    rw [if_neg (show ¬ (Int.ofNat n < 0) from fun z => absurd z (Int.not_lt.mpr (Int.natCast_nonneg n)))]
    exact tl_num n
  | negSucc n =>
    rw [if_pos (Int.negSucc_lt_zero n)]
    have e : toString (Int.negSucc n) = "-" ++ toString (n + 1) := rfl
    unfold nstr
    rw [e, tl_ofString, String.toList_append, List.map_append, ← tl_ofString (toString (n + 1))]
    have := tl_num (n + 1)
    rw [show toString (((n + 1 : Nat)) : Int) = toString (n + 1) from rfl] at this
    rw [this]
    rfl
theorem nstr_len {i : Int} {k : Nat} (hk : 0 < k) (h : i.natAbs < 10 ^ k) : (nstr i).length ≤ k + 1 := by
  rw [len_tl, tl_int]
  have := numL_len hk h
  unfold intL
  split
  · simp; omega
  · omega
theorem intL_len {i : Int} {k : Nat} (hk : 0 < k) (h : i.natAbs < 10 ^ k) : (intL i).length ≤ k + 1 := by
  have := numL_len hk h
  unfold intL
  split
  · simp; omega
  · omega
theorem sm_ten {i : Int} {n : Nat} (h : Sm (3 * n) i) : i.natAbs < 10 ^ n := by
  unfold Sm at h
  have : (2 ^ 3) ^ n ≤ 10 ^ n := Nat.pow_le_pow_left (by decide) n
  rw [← Nat.pow_mul] at this
  omega
end Zw

namespace Zw
open PySem L2
/-! ### cells -/
theorem fn_ret {n m : Nat} {B : MS} {ds : List Dat} {d : Dat} {cs cs' : List (Option Dat)} (hl : ds.length = n) (h : endFn (B ⟨envOf m ds, cs⟩) = .ret d cs') (env : List Slot) : callM (runFn n m B) ds ⟨env, cs⟩ = .ret d ⟨env, cs'⟩ := by
  unfold callM runFn
  dsimp only
  rw [if_pos hl, h]
@[simp] theorem z_vwl0 (s : Sto) (n : Nat) : vwD s (.loc n) = match s.cs[n]? with
    | some (some d) => if isCont d = true then some d else none
    | _ => none := (rfl)
@[simp] theorem z_contL (ds : List Dat) : isCont (.lst ds) = true := (rfl)
@[simp] theorem z_vwm (x : Dat) (s : Sto) : vw x s = match vwD s x with
  | some d => .ret d s
  | none => .stuck := (rfl)
@[simp] theorem z_setIx (i : Nat) (v : Dat) (k : Int) (s : Sto) : setIx i v (.int k) s = match s.env[i]? with
    | some (.val (.loc n)) => (match s.cs[n]? with
      | some (some (.lst ds)) => (match ixN ds.length k with
        | some j => .nx ⟨s.env, s.cs.set n (some (.lst (ds.set j v)))⟩
        | none => .stuck)
      | _ => .stuck)
    | some (.own (.lst ds)) => (match ixN ds.length k with
      | some j => .nx ⟨s.env.set i (.own (.lst (ds.set j v))), s.cs⟩
      | none => .stuck)
    | _ => .stuck := (rfl)
@[simp] theorem z_ixN0 : ixN 3 0 = some 0 := by decide
@[simp] theorem z_ixN1 : ixN 3 1 = some 1 := by decide
@[simp] theorem z_ixN2 : ixN 3 2 = some 2 := by decide
@[simp] theorem z_cellM (ma : M (List Dat)) (s : Sto) : cellM ma s = (ma s).bnd fun ds => fun s => if ds.length ≤ sizeLine then .ret (.loc s.cs.length) ⟨s.env, s.cs ++ [some (.lst ds)]⟩ else .stuck := (rfl)
@[simp] theorem z_listL (ds : List Dat) : runR rListC [.lst ds] = pur (.lst ds) := (rfl)
@[simp] theorem z_listT (ds : List Dat) : runR rListC [.tup ds] = pur (.lst ds) := (rfl)
@[simp] theorem z_sliceL (ds : List Dat) (lo hi : Option Int) : sliceM (.lst ds) lo hi = pur (.lst (cutD ds lo hi)) := (rfl)
@[simp] theorem z_sliceT (ds : List Dat) (lo hi : Option Int) : sliceM (.tup ds) lo hi = pur (.tup (cutD ds lo hi)) := (rfl)
theorem cut_upto {ds : List Dat} {k : Nat} (h : ds.length ≤ k) : cutD ds none (some (k : Int)) = ds := by
  unfold cutD
  rw [HT.sIx_nat, HT.sIx_none]
  simp [List.take_of_length_le, h]
theorem pys_ints : ∀ ns : List Int, Dat.pys (ns.map .int) = some (ns.map PyData.int)
  | [] => by rw [List.map_nil, Dat.pys]; rfl
  | n :: ns => by
    rw [List.map_cons, Dat.pys, Dat.py, pys_ints ns]; rfl
theorem depth_ints : ∀ ns : List Int, PyData.depthAll (ns.map PyData.int) = 0
  | [] => rfl
  | n :: ns => by
    show max 0 (PyData.depthAll (ns.map PyData.int)) = 0
    rw [depth_ints ns]; rfl
theorem lay_ints : ∀ ns : List Int, PyData.canLayAll0 (ns.map PyData.int) = true
  | [] => rfl
  | n :: ns => by
    show (true && PyData.canLayAll0 (ns.map PyData.int)) = true
    rw [lay_ints ns]; rfl
theorem z_neNil (E : En) (ns : List Int) : E.cmp .NotEq (.lst (ns.map .int)) (.lst []) = pur (.bl (!ns.isEmpty)) := by
  have e : eqN (.lst (ns.map .int)) (.lst []) = some ns.isEmpty := by
    unfold eqN
    rw [Dat.py, Dat.py, pys_ints, Dat.pys]
    have s1 : SeqAt.shaped (.list (ns.map PyData.int)) = true := by
      unfold SeqAt.shaped
      rw [show (PyData.list (ns.map PyData.int)).canLay0 = PyData.canLayAll0 (ns.map PyData.int) from rfl, lay_ints]
      rw [show (PyData.list (ns.map PyData.int)).depth = PyData.depthAll (ns.map PyData.int) + 1 from rfl, depth_ints]
      decide
    have s2 : SeqAt.shaped (.list []) = true := by decide
    dsimp only [Option.map_some]
    rw [s1, s2, if_pos (show (true && true) = true from rfl)]
    cases ns <;> rfl
  show runR (orR rNeS (orR rNeN (E.rCmp .NotEq))) _ = _
  have e1 : rNeS [.lst (ns.map .int), .lst []] = none := rfl
  have e2 : rNeN [.lst (ns.map .int), .lst []] = some (pur (.bl (!ns.isEmpty))) := by
    unfold rNeN p2
    dsimp only
    rw [e]; rfl
  unfold runR orR
  rw [e1]
  dsimp only
  rw [e2]
theorem for_inv {g : Dat → MS} {b : MS} (I : Nat → Sto → Prop) (N : Nat) : ∀ (ds : List Dat) (n : Nat) (s : Sto), n + ds.length ≤ N → I n s → (∀ d ∈ ds, ∀ n s, n < N → I n s → ∃ s1 s2, g d s = .nx s1 ∧ b s1 = .nx s2 ∧ I (n + 1) s2) → ∃ s', forM g b ds s = .nx s' ∧ I (n + ds.length) s'
  | [], n, s, _, h, _ => ⟨s, rfl, h⟩
  | d :: ds, n, s, hN, h, st => by
    rw [List.length_cons] at hN
    obtain ⟨s1, s2, e1, e2, h2⟩ := st d List.mem_cons_self n s (by omega) h
    obtain ⟨s', e, h'⟩ := for_inv I N ds (n + 1) s2 (by omega) h2 fun d hd => st d (List.mem_cons_of_mem _ hd)
    refine ⟨s', ?_, ?_⟩
    · rw [z_for1, e1]; dsimp only; rw [e2]; exact e
    · rw [List.length_cons, show n + (ds.length + 1) = n + 1 + ds.length by omega]; exact h'
/-- the pen: the script, how many numbers are taken, what is left of a great one -/
def pen (t : List (Option Dat)) (ns : List Int) (n g : Int) : List (Option Dat) := t ++ [some (.lst [.lst (ns.map .int), .int n, .int g])]
structure PenOk (t : List (Option Dat)) (k : Int) (cs : List (Option Dat)) : Prop where
  ex : ∃ ns n g, cs = pen t ns n g ∧ ns.length ≤ 63 ∧ 0 ≤ n ∧ n ≤ k ∧ 0 ≤ g
@[simp] theorem pen_at (t : List (Option Dat)) (ns : List Int) (n g : Int) : (pen t ns n g)[t.length]? = some (some (.lst [.lst (ns.map .int), .int n, .int g])) := by
  unfold pen
  simp
@[simp] theorem pen_set (t : List (Option Dat)) (ns : List Int) (n g n' g' : Int) : (pen t ns n g).set t.length (some (.lst [.lst (ns.map .int), .int n', .int g'])) = pen t ns n' g' := by
  unfold pen
  simp
theorem pen_tab {t : List (Option Dat)} {ns : List Int} {n g : Int} {i : Nat} {o : Option Dat} (h : t[i]? = some o) : (pen t ns n g)[i]? = some o := by
  unfold pen
  rw [List.getElem?_append_left (List.getElem?_eq_some_iff.mp h).1]
  exact h
theorem PenOk.tab {t : List (Option Dat)} {k : Int} {cs : List (Option Dat)} (h : PenOk t k cs) {i : Nat} {o : Option Dat} (e : t[i]? = some o) : cs[i]? = some o := by
  obtain ⟨ns, n, g, rfl, _⟩ := h.ex
  exact pen_tab e
theorem PenOk.mono {t : List (Option Dat)} {k k' : Int} {cs : List (Option Dat)} (h : PenOk t k cs) (l : k ≤ k') : PenOk t k' cs := by
  obtain ⟨ns, n, g, h1, h2, h3, h4, h5⟩ := h.ex
  exact ⟨⟨ns, n, g, h1, h2, h3, by omega, h5⟩⟩
theorem small_mul {i j : Int} (h1 : -18446744073709551616 < i) (h2 : i < 18446744073709551616) : mulOk i j = true := by
  unfold mulOk Zw.small64
  rw [decide_eq_true (show -(2 ^ 64) < i ∧ i < 2 ^ 64 from ⟨h1, h2⟩)]; rfl
theorem small_pow {i j : Int} (h0 : 0 ≤ j) (hj : j ≤ 1000) (h1 : -18446744073709551616 < i) (h2 : i < 18446744073709551616) : powOk i j = true := by
  unfold powOk
  refine decide_eq_true ⟨h0, by omega, ?_⟩
  have : (2 : Nat) ^ 64 = 18446744073709551616 := by decide
  omega
theorem fmod_range {i j : Int} (h : 0 < j) : 0 ≤ i.fmod j ∧ i.fmod j < j := ⟨Int.fmod_nonneg_of_pos i h, Int.fmod_lt_of_pos i h⟩
end Zw

namespace Zw
open PySem L2
/-! ### the newer words, step by step -/
section
variable {α β : Type} (E : En)
@[simp] theorem z_chM (mo mo' : Dat → Dat → M Dat) (ma mb mc : M Dat) (s : Sto) : chainM mo mo' ma mb mc s = (ma s).bnd fun x => bnd mb fun y => bnd (mo x y) fun z => match z with
  | .bl c => if c = true then bnd mc fun w => mo' y w else pur (.bl false)
  | _ => fail := (rfl)
@[simp] theorem z_chT (mo mo' : Dat → Dat → M Dat) (mt : Dat → M Bool) (ma mb mc : M Dat) (s : Sto) : chainT mo mo' mt ma mb mc s = (ma s).bnd fun x => bnd mb fun y => bnd (mo x y) fun z => match z with
  | .bl c => if c = true then bnd mc fun w => bnd (mo' y w) mt else pur false
  | _ => fail := (rfl)
@[simp] theorem z_disp0 (s : Sto) : dispM [] s = .ret [] s := (rfl)
@[simp] theorem z_disp1 (mk mv : M Dat) (r : List (M Dat × M Dat)) (s : Sto) : dispM ((mk, mv) :: r) s = (mk s).bnd fun k => bnd mv fun v => bnd (dispM r) fun ps => pur ((k, v) :: ps) := (rfl)
@[simp] theorem z_dicM (ms : List (M Dat × M Dat)) (s : Sto) : dicM ms s = (dispM ms s).bnd fun ps => if (ps.all fun p => isKey p.1) = true then pur (.dic (mergeD [] ps)) else fail := (rfl)
@[simp] theorem z_try (i : Option Nat) (c : Str → Option Bool) (mb ms : MS) (s : Sto) : tryS i c mb ms s = match mb s with
  | .exc x s' => onExc i c ms x s'
  | o => o := (rfl)
@[simp] theorem z_onx (i : Nat) (c : Str → Option Bool) (ms : MS) (x : Str) (fs : List (Str × Dat)) (s : Sto) : onExc (some i) c ms (.exc x fs) s = match c x with
    | some true => (match ms ⟨s.env.set i (.val (.exc x fs)), s.cs⟩ with
        | .nx s' => .nx ⟨s'.env.set i .unset, s'.cs⟩
        | .bk s' => .bk ⟨s'.env.set i .unset, s'.cs⟩
        | .ct s' => .ct ⟨s'.env.set i .unset, s'.cs⟩
        | .rt d s' => .rt d ⟨s'.env.set i .unset, s'.cs⟩
        | _ => .stuck)
    | some false => .exc (.exc x fs) s
    | none => .stuck := (rfl)
@[simp] theorem z_onx0 (c : Str → Option Bool) (ms : MS) (x : Str) (fs : List (Str × Dat)) (s : Sto) : onExc none c ms (.exc x fs) s = match c x with
    | some true => (match ms s with
        | .exc _ _ => .stuck
        | o => o)
    | some false => .exc (.exc x fs) s
    | none => .stuck := (rfl)
@[simp] theorem z_raise (c : Str) (ds : List Dat) (s : Sto) : E.raiseS c ds s = match E.xmk c ds with
  | some x => .exc x s
  | none => .stuck := (rfl)
@[simp] theorem z_aug (i : Nat) (me : M Dat) (mo : Dat → Dat → M Dat) (s : Sto) : augS i me mo s = match s.env[i]? with
  | some (.val x) => bndS me (fun y => bndS (mo x y) (asgS i)) s
  | _ => .stuck := (rfl)
@[simp] theorem z_par3 (i j l : Nat) (a b c : Dat) (s : Sto) : par3 i j l [a, b, c] s = .nx ⟨((s.env.set i (.val a)).set j (.val b)).set l (.val c), s.cs⟩ := (rfl)
@[simp] theorem z_ownL (i : Nat) (ds : List Dat) (s : Sto) : ownL i ds s = if ds.length ≤ sizeLine then .nx ⟨s.env.set i (.own (.lst ds)), s.cs⟩ else .stuck := (rfl)
@[simp] theorem z_own0 (i : Nat) (s : Sto) : own0 i s = .nx ⟨s.env.set i (.own (.dic [])), s.cs⟩ := (rfl)
@[simp] theorem z_isOwnL (ds : List Dat) : isOwnL (some (.own (.lst ds))) = true := (rfl)
@[simp] theorem z_app (i : Nat) (me : M Dat) (s : Sto) : appM i me s = if isOwnL s.env[i]? = true then bnd me (fun y => fun s => match s.env[i]? with
  | some (.own (.lst ds)) => if ds.length < sizeLine then .ret .non ⟨s.env.set i (.own (.lst (ds ++ [y]))), s.cs⟩ else .stuck
  | _ => .stuck) s else .stuck := (rfl)
@[simp] theorem z_repL (ma : M (List Dat)) (k : Int) (s : Sto) : repLM ma k s = (ma s).bnd fun ds => if ds.length ≤ sizeLine ∧ repOk ds.length k = true then pur (.lst (List.replicate k.toNat ds).flatten) else fail := (rfl)
@[simp] theorem z_slotL (i : Nat) (m : M Dat) (s : Sto) : slotCall i m s = match s.env[i]? with
  | some (.lam c) => callL c s
  | _ => m s := (rfl)
@[simp] theorem z_callL (c : LCon) (s : Sto) : callL c s = match c s.cs with
  | .ret d cs' => .ret d ⟨s.env, cs'⟩
  | .exc y cs' => .exc y ⟨s.env, cs'⟩
  | .stuck => .stuck := (rfl)
@[simp] theorem z_lamC (mb : M Dat) (env : List Slot) (cs : List (Option Dat)) : lamCon mb env cs = match mb ⟨env, cs⟩ with
  | .ret d s' => .ret d s'.cs
  | .exc x s' => .exc x s'.cs
  | .stuck => .stuck := (rfl)
theorem z_lam {x : Str} {n : Nat} {p : Str × Option Str} {q : Str} {fr : List Nat} {mb : M Dat} {s : Sto} {li : LamI} (h : s.cs[n]? = some (some (.tab p q))) (hl : E.lamf x = some li) : lamM E x n p q fr mb s = match li.con (lamCon mb (capE fr s.env)) s.cs with
      | .ret d cs' => .ret d ⟨s.env, cs'⟩
      | .exc y cs' => .exc y ⟨s.env, cs'⟩
      | .stuck => .stuck := by
  unfold lamM
  rw [h]
  dsimp only
  rw [if_pos ⟨rfl, rfl⟩, hl] <;> rfl
@[simp] theorem z_mthK (m : Str) (ma mk : M (List Dat)) (ks : List Str) (x : Dat) : E.mthK m ma mk ks x = gate (E.mKw m x) fun q => bnd ma fun ds => bnd mk fun zs => E.callK q.1 (if q.2 = true then x :: ds else ds) (ks.zip zs) := (rfl)
/-! values -/
variable (i j : Int) (a b : Bool) (x y : Str)
@[simp] theorem z_isi_ii : E.isi [.int i, .ty "int"] = pur (.bl true) := by kernel_rfl
@[simp] theorem z_isi_ib : E.isi [.int i, .ty "bool"] = pur (.bl false) := by kernel_rfl
@[simp] theorem z_isi_is : E.isi [.int i, .ty "str"] = pur (.bl false) := by kernel_rfl
@[simp] theorem z_isi_ss : E.isi [.str x, .ty "str"] = pur (.bl true) := by kernel_rfl
@[simp] theorem z_isi_si : E.isi [.str x, .ty "int"] = pur (.bl false) := by kernel_rfl
@[simp] theorem z_isi_ns : E.isi [.non, .ty "str"] = pur (.bl false) := by kernel_rfl
@[simp] theorem z_isi_ni : E.isi [.non, .ty "int"] = pur (.bl false) := by kernel_rfl
@[simp] theorem z_isi_bs : E.isi [.bl b, .ty "str"] = pur (.bl false) := by kernel_rfl
@[simp] theorem z_isi_bi : E.isi [.bl b, .ty "int"] = pur (.bl true) := by kernel_rfl
@[simp] theorem z_isi_bb : E.isi [.bl b, .ty "bool"] = pur (.bl true) := by kernel_rfl
@[simp] theorem z_isi_ts (ds : List Dat) : E.isi [.tup ds, .ty "str"] = pur (.bl false) := by kernel_rfl
@[simp] theorem z_isi_ti (ds : List Dat) : E.isi [.tup ds, .ty "int"] = pur (.bl false) := by kernel_rfl
@[simp] theorem z_isi_ls (ds : List Dat) : E.isi [.lst ds, .ty "str"] = pur (.bl false) := by kernel_rfl
@[simp] theorem z_isi_li (ds : List Dat) : E.isi [.lst ds, .ty "int"] = pur (.bl false) := by kernel_rfl
@[simp] theorem z_isi_ds (ds : List (Dat × Dat)) : E.isi [.dic ds, .ty "str"] = pur (.bl false) := by kernel_rfl
@[simp] theorem z_isi_di (ds : List (Dat × Dat)) : E.isi [.dic ds, .ty "int"] = pur (.bl false) := by kernel_rfl
@[simp] theorem z_iadd : E.inp .Add (.int i) (.int j) = pur (.int (i + j)) := (rfl)
@[simp] theorem z_isub : E.inp .Sub (.int i) (.int j) = pur (.int (i - j)) := (rfl)
theorem z_addS (h : x.length + y.length ≤ 16777216) : E.bin .Add (.str x) (.str y) = pur (.str (x ++ y)) := by
  show runR (orR rAddI (orR rAddS _)) _ = _
  unfold runR orR rAddI rAddS p2 i2
  dsimp only
  rw [if_pos (by rw [z_size]; exact h)]; rfl
@[simp] theorem z_non_exc (c : Str) (fs : List (Str × Dat)) : isNon (.exc c fs) = false := (rfl)
@[simp] theorem z_non_lst (ds : List Dat) : isNon (.lst ds) = false := (rfl)
@[simp] theorem z_non_tup (ds : List Dat) : isNon (.tup ds) = false := (rfl)
@[simp] theorem z_non_str : isNon (.str x) = false := (rfl)
@[simp] theorem z_non_bl : isNon (.bl b) = false := (rfl)
@[simp] theorem z_non_ins (c : Str) (fs : List (Str × Dat)) : isNon (.ins c fs) = false := (rfl)
end
theorem z_ixStr {z : Str} {k : Nat} (h : k < z.cps.size) (hl : z.length ≤ 16777216) : ixM (.str z) (.int k) = pur (sign z.cps[k]) := by
  have e : atI z.cps.toList (k : Int) = some z.cps[k] := by
    unfold atI ixN
    rw [if_pos (by omega), if_pos (by simp; omega)]
    simp [h]
  unfold ixM runR Zw.rIxD p2 ixD
  dsimp only
  rw [if_pos (by rw [z_size]; exact hl), e]
  rfl
/-! == of data that are one -/
theorem z_reprEq (E : En) {d : Dat} {z : Str} (h : shD d = some z) : runR E.rRep [d] = pur (.str z) := by
  unfold runR En.rRep orR rRepr p1
  dsimp only
  rw [h]; rfl
end Zw

namespace Zw
open PySem L2
/-! ### what repr shows fits -/
theorem tf_len : ∀ (ts : List Str) (k : Nat) (acc : Str) (n : Nat), (∀ t ∈ ts, t.length ≤ n) → (textFrom k acc ts).length ≤ acc.length + ts.length * (n + 2)
  | [], k, acc, n, _ => by show acc.length ≤ _; simp
  | t :: ts, k, acc, n, h => by
    have ih := fun k acc => tf_len ts k acc n fun x hx => h x (List.mem_cons_of_mem _ hx)
    have ht := h t List.mem_cons_self
    have e2 : ((", " : Str)).length = 2 := by decide
    unfold textFrom
    by_cases z : k > 0
    · simp only [z, if_true]
      refine Nat.le_trans (ih _ _) ?_
      simp only [strLen_append, e2, List.length_cons, Nat.succ_mul]
      omega
    · simp only [z, if_false]
      refine Nat.le_trans (ih _ _) ?_
      have e0 : (("" : Str)).length = 0 := by decide
      simp only [strLen_append, e0, List.length_cons, Nat.succ_mul]
      omega
theorem join_len : ∀ (ts : List Str) (n : Nat), (∀ t ∈ ts, t.length ≤ n) → (Str.join ", " ts).length ≤ ts.length * (n + 2)
  | [], n, _ => by show (0 : Nat) ≤ _; omega
  | [x], n, h => by
    have := h x (by simp)
    show x.length ≤ _
    simp; omega
  | x :: y :: r, n, h => by
    have ih := join_len (y :: r) n fun z hz => h z (List.mem_cons_of_mem _ hz)
    have hx := h x (by simp)
    have e2 : ((", " : Str)).length = 2 := by decide
    show (x ++ (", " : Str) ++ Str.join ", " (y :: r)).length ≤ _
    rw [strLen_append, strLen_append, e2, List.length_cons, Nat.succ_mul]
    omega
theorem shownAll_map (es : List PyData) : PyData.shownAll es = es.map PyData.shown := by
  induction es with
  | nil => rfl
  | cons e es ih => simp [PyData.shownAll, ih]
theorem showableAll_of {es : List PyData} (h : ∀ e ∈ es, e.showable = true) : PyData.showableAll es = true := by
  induction es with
  | nil => rfl
  | cons e es ih =>
    simp only [PyData.showableAll, Bool.and_eq_true]
    exact ⟨h e List.mem_cons_self, ih fun x hx => h x (List.mem_cons_of_mem _ hx)⟩
theorem depthAll_of {es : List PyData} {k : Nat} (h : ∀ e ∈ es, e.depth ≤ k) : PyData.depthAll es ≤ k := by
  induction es with
  | nil => exact Nat.zero_le _
  | cons e es ih =>
    have h1 := h e List.mem_cons_self
    have h2 := ih fun x hx => h x (List.mem_cons_of_mem _ hx)
    unfold PyData.depthAll
    omega
/-- shown within n signs, nested at most k deep -/
structure Sh (n k : Nat) (d : Dat) : Prop where
  ex : ∃ e, d.pd = some e ∧ e.showable = true ∧ e.shown.length ≤ n ∧ e.depth ≤ k
theorem Sh.mono {n k n' k' : Nat} {d : Dat} (h : Sh n k d) (hn : n ≤ n') (hk : k ≤ k') : Sh n' k' d := by
  obtain ⟨e, h1, h2, h3, h4⟩ := h.ex
  exact ⟨e, h1, h2, by omega, by omega⟩
theorem Sh.ok {n k : Nat} {d : Dat} (h : Sh n k d) (hn : n ≤ 16777216) (hk : k ≤ 100) : ∃ z, ∀ E : En, runR E.rRep [d] = pur (.str z) := by
  obtain ⟨e, h1, h2, h3, h4⟩ := h.ex
  refine ⟨e.shown, fun E => z_reprEq E ?_⟩
  unfold shD
  rw [h1]
  dsimp only
  rw [if_pos ⟨h2, by rw [z_size]; omega, by omega⟩]
theorem Sh.non : Sh 4 0 .non := ⟨.none, by rw [Dat.pd], rfl, by decide, Nat.le_refl _⟩
theorem Sh.bl (b : Bool) : Sh 5 0 (.bl b) := ⟨.bool b, by rw [Dat.pd], rfl, by cases b <;> decide, Nat.le_refl _⟩
theorem Sh.int {i : Int} {j : Nat} (h : Sm j i) (hj : j ≤ 1900) (h0 : 0 < j) : Sh (j + 1) 0 (.int i) := by
  have hl := h.log h0
  refine ⟨.int i, by rw [Dat.pd], ?_, ?_, Nat.le_refl _⟩
  · simp only [PyData.showable, decide_eq_true_eq]; omega
  · show (nstr i).length ≤ j + 1
    refine nstr_len h0 ?_
    unfold Sm at h
    exact Nat.lt_of_lt_of_le h (Nat.pow_le_pow_left (by decide) j)
theorem Sh.str {z : Str} {n : Nat} (h : z.length ≤ n) (hc : ∀ c ∈ z.cps.toList, c < 16 ^ 8) : Sh (10 * n + 2) 0 (.str z) := by
  refine ⟨.str z, by rw [Dat.pd], rfl, ?_, Nat.le_refl _⟩
  have := StrLaws.reprText_len z hc
  show (reprText z).length ≤ _
  omega
theorem pds_of : ∀ {ds : List Dat} {n k : Nat}, (∀ d ∈ ds, Sh n k d) → ∃ es, Dat.pds ds = some es ∧ es.length = ds.length ∧ ∀ e ∈ es, e.showable = true ∧ e.shown.length ≤ n ∧ e.depth ≤ k
  | [], n, k, _ => ⟨[], by rw [Dat.pds], rfl, fun e he => by cases he⟩
  | d :: ds, n, k, h => by
    obtain ⟨es, h1, h2, h3⟩ := pds_of fun x hx => h x (List.mem_cons_of_mem _ hx)
    obtain ⟨e, g1, g2⟩ := (h d List.mem_cons_self).ex
    refine ⟨e :: es, by rw [Dat.pds, g1, h1], by simp [h2], fun x hx => ?_⟩
    rcases List.mem_cons.mp hx with rfl | hx
    · exact g2
    · exact h3 x hx
theorem Sh.lst {ds : List Dat} {n k : Nat} (h : ∀ d ∈ ds, Sh n k d) : Sh (2 + ds.length * (n + 2)) (k + 1) (.lst ds) := by
  obtain ⟨es, h1, h2, h3⟩ := pds_of h
  refine ⟨.list es, by rw [Dat.pd, h1]; rfl, ?_, ?_, ?_⟩
  · simp only [PyData.showable]; exact showableAll_of fun e he => (h3 e he).1
  · show (listText (PyData.shownAll es)).length ≤ _
    unfold listText
    have := tf_len (PyData.shownAll es) 0 "[" n (by
      rw [shownAll_map]
      intro t ht
      obtain ⟨e, he, rfl⟩ := List.mem_map.mp ht
      exact (h3 e he).2.1)
    rw [shownAll_map, List.length_map, h2] at this
    rw [strLen_append, shownAll_map]
    have e1 : (("[" : Str)).length = 1 := by decide
    have e2 : (("]" : Str)).length = 1 := by decide
    rw [e1] at this
    rw [e2]
    omega
  · have := depthAll_of (es := es) (k := k) fun e he => (h3 e he).2.2
    simp only [PyData.depth]; omega
theorem Sh.tup {ds : List Dat} {n k : Nat} (h : ∀ d ∈ ds, Sh n k d) : Sh (3 + ds.length * (n + 2)) (k + 1) (.tup ds) := by
  obtain ⟨es, h1, h2, h3⟩ := pds_of h
  refine ⟨.tuple es, by rw [Dat.pd, h1]; rfl, ?_, ?_, ?_⟩
  · simp only [PyData.showable]; exact showableAll_of fun e he => (h3 e he).1
  · show (tupleText (PyData.shownAll es)).length ≤ _
    unfold tupleText
    have := join_len (PyData.shownAll es) n (by
      rw [shownAll_map]
      intro t ht
      obtain ⟨e, he, rfl⟩ := List.mem_map.mp ht
      exact (h3 e he).2.1)
    rw [shownAll_map, List.length_map, h2] at this
    rw [strLen_append, strLen_append, shownAll_map]
    have e1 : (("(" : Str)).length = 1 := by decide
    have e2 : (Str.ofString (if (List.map PyData.shown es).length == 1 then ",)" else ")" : String)).length ≤ 2 := by split <;> decide
    rw [e1]
    omega
  · have := depthAll_of (es := es) (k := k) fun e he => (h3 e he).2.2
    simp only [PyData.depth]; omega
theorem pdk_of : ∀ {ds : List (Dat × Dat)} {n k : Nat}, (∀ p ∈ ds, Sh n k p.1 ∧ Sh n k p.2) → ∃ es, Dat.pdk ds = some es ∧ es.length = ds.length ∧ ∀ e ∈ es, (e.1.showable = true ∧ e.1.shown.length ≤ n ∧ e.1.depth ≤ k) ∧ (e.2.showable = true ∧ e.2.shown.length ≤ n ∧ e.2.depth ≤ k)
  | [], n, k, _ => ⟨[], by rw [Dat.pdk], rfl, fun e he => by cases he⟩
  | (a, b) :: ds, n, k, h => by
    obtain ⟨es, h1, h2, h3⟩ := pdk_of fun x hx => h x (List.mem_cons_of_mem _ hx)
    obtain ⟨e, g1, g2⟩ := (h (a, b) List.mem_cons_self).1.ex
    obtain ⟨e', g1', g2'⟩ := (h (a, b) List.mem_cons_self).2.ex
    refine ⟨(e, e') :: es, by rw [Dat.pdk, g1, g1', h1], by simp [h2], fun x hx => ?_⟩
    rcases List.mem_cons.mp hx with rfl | hx
    · exact ⟨g2, g2'⟩
    · exact h3 x hx
theorem Sh.dic {ds : List (Dat × Dat)} {n k : Nat} (h : ∀ p ∈ ds, Sh n k p.1 ∧ Sh n k p.2) : Sh (2 + ds.length * (2 * n + 4)) (k + 1) (.dic ds) := by
  obtain ⟨es, h1, h2, h3⟩ := pdk_of h
  have hs : PyData.showableKv es = true := by
    clear h1 h2
    induction es with
    | nil => rfl
    | cons e es ih =>
      obtain ⟨a, b⟩ := e
      simp only [PyData.showableKv, Bool.and_eq_true]
      have := h3 (a, b) List.mem_cons_self
      exact ⟨⟨this.1.1, this.2.1⟩, ih fun x hx => h3 x (List.mem_cons_of_mem _ hx)⟩
  have hd : PyData.depthKv es ≤ k := by
    clear h1 h2 hs
    induction es with
    | nil => exact Nat.zero_le _
    | cons e es ih =>
      obtain ⟨a, b⟩ := e
      have := h3 (a, b) List.mem_cons_self
      have h2 := ih fun x hx => h3 x (List.mem_cons_of_mem _ hx)
      unfold PyData.depthKv
      have t1 := this.1.2.2
      have t2 := this.2.2.2
      dsimp only at t1 t2
      omega
  have hk : PyData.shownKv es = es.map fun p => p.1.shown ++ (": " : Str) ++ p.2.shown := by
    clear h1 h2 h3 hs hd
    induction es with
    | nil => rfl
    | cons e es ih => obtain ⟨a, b⟩ := e; simp [PyData.shownKv, ih]
  refine ⟨.dict es, by rw [Dat.pd, h1]; rfl, hs, ?_, by simp only [PyData.depth]; omega⟩
  show (dictText (PyData.shownKv es)).length ≤ _
  unfold dictText
  have e3 : ((": " : Str)).length = 2 := by decide
  have := join_len (PyData.shownKv es) (2 * n + 2) (by
    rw [hk]
    intro t ht
    obtain ⟨e, he, rfl⟩ := List.mem_map.mp ht
    have h := h3 e he
    have t1 := h.1.2.1
    have t2 := h.2.2.1
    rw [strLen_append, strLen_append, e3]
    omega)
  rw [hk, List.length_map, h2, show 2 * n + 2 + 2 = 2 * n + 4 by omega] at this
  rw [strLen_append, strLen_append, hk]
  have e1 : (("{" : Str)).length = 1 := by decide
  have e2 : (("}" : Str)).length = 1 := by decide
  rw [e1, e2]
  omega
/-! == of two reprs -/
/-! exceptions of defs -/
theorem fn_exc {n m : Nat} {B : MS} {ds : List Dat} {x : Dat} (hl : ds.length = n) (h : ∀ cs, endFn (B ⟨envOf m ds, cs⟩) = .exc x cs) : callM (runFn n m B) ds = fun s => .exc x s := by
  funext s
  unfold callM runFn
  rw [if_pos hl, h s.cs]
theorem in_exc {n m : Nat} {B : MS} {d0 x : Dat} {ds : List Dat} (hl : ds.length + 1 = n) (h : ∀ cs, endIn (B ⟨envIn m d0 ds, cs⟩) = .exc x cs) : callM (runIn n m B) (d0 :: ds) = fun s => .exc x s := by
  funext s
  unfold callM runIn
  dsimp only
  rw [if_pos hl, h s.cs]
@[simp] theorem z_gate {α : Type} (x : α) (f : α → M Dat) : gate (some x) f = f x := (rfl)
/-! comprehensions over what is given by a function -/
theorem lc_mapG {α : Type} {i : Nat} {te : M Dat} {g f : α → Dat} {env : List Slot} {cs : List (Option Dat)} (hi : i < env.length) : ∀ (xs : List α) (acc : List Dat), (∀ x ∈ xs, te ⟨env.set i (.val (g x)), cs⟩ = .ret (f x) ⟨env.set i (.val (g x)), cs⟩) →
    lcLoop [i] (asgS i) (pur true) te (xs.map g) acc ⟨env.set i .unset, cs⟩ = .ret (acc ++ xs.map f) ⟨env.set i .unset, cs⟩
  | [], acc, _ => by rw [List.map_nil, z_lc0]; simp
  | x :: xs, acc, h => by
    rw [List.map_cons, z_lc1]
    simp only [z_asg, z_pur, List.set_set]
    rw [h x (by simp)]
    dsimp only
    rw [z_wipe1, List.set_set, lc_mapG hi xs _ fun e he => h e (List.mem_cons_of_mem _ he)]
    simp
theorem lc_fun {α : Type} {i : Nat} {te : M Dat} {g f : α → Dat} {env : List Slot} {cs : List (Option Dat)} {xs : List α} (hi : i < env.length) (hp : plainAt env [i] = true) (hl : xs.length ≤ 16777216) (h : ∀ x ∈ xs, te ⟨env.set i (.val (g x)), cs⟩ = .ret (f x) ⟨env.set i (.val (g x)), cs⟩) (mi : M (List Dat)) (hm : mi ⟨env, cs⟩ = .ret (xs.map g) ⟨env, cs⟩) :
    lcM [i] mi (asgS i) (pur true) te ⟨env, cs⟩ = .ret (.lst (xs.map f)) ⟨env, cs⟩ := by
  rw [z_lc, hm, z_ret]
  dsimp only
  rw [if_pos ⟨hp, by simpa using hl⟩, z_wipe1, lc_mapG hi xs [] h]
  dsimp only
  rw [z_rest1, rest_id hi]; rfl
/-! texts by their signs -/
section
open TL
abbrev st (l : List Nat) : Str := ⟨l.toArray⟩
theorem st_tl (z : Str) : z = st (tl z) := by cases z; rfl
theorem tl_cut (z : Str) (lo hi : Option Int) : tl (cutS z lo hi) = cutD (tl z) lo hi := by
  unfold cutS cutD
  rw [tl_mk, len_tl]
theorem cut_pre {α : Type} (xs : List α) (k : Nat) : cutD xs none (some (k : Int)) = xs.take k := by
  unfold cutD
  rw [HT.sIx_nat, HT.sIx_none]
  simp only [List.drop_zero, Nat.sub_zero]
  rcases Nat.le_total k xs.length with h | h
  · rw [Nat.min_eq_left h]
  · rw [Nat.min_eq_right h, List.take_of_length_le h, List.take_of_length_le (Nat.le_refl _)]
theorem cut_post {α : Type} (xs : List α) (k : Nat) : cutD xs (some (k : Int)) none = xs.drop k := by
  unfold cutD
  rw [HT.sIx_nat, HT.sIx_none]
  rcases Nat.le_total k xs.length with h | h
  · rw [Nat.min_eq_left h]
    exact List.take_of_length_le (by rw [List.length_drop]; omega)
  · rw [Nat.min_eq_right h, List.drop_of_length_le (Nat.le_refl _), List.drop_of_length_le h]
    simp
theorem z_slS {z : Str} (h : z.length ≤ 16777216) (lo hi : Option Int) : sliceM (.str z) lo hi = pur (.str (cutS z lo hi)) := by
  unfold sliceM
  dsimp only
  rw [if_pos (by rw [z_size]; exact h)]
end
end Zw

set_option maxHeartbeats 0
namespace Lw
open PySem L2 PyProof.Rows PySem.Spec ClX Zw
def top (i : Nat) : Stmt := PySem.Challenge.pw_zerowalks_k09_zeros_in_order.main.body.getD i (.Pass ⟨0, 0, 0, 0⟩)
def sub (i j : Nat) : Stmt := (clsB (top i)).getD j (.Pass ⟨0, 0, 0, 0⟩)
def d_wall : DefT := ⟨"_wall", ("_wall", none), "_wall", "_wall", dArgs (top 0), dBody (top 0), dScope (top 0), ["k"], [], false, false, [], none, false⟩
def dis_int : DefT := ⟨"is_int", ("is_int", none), "is_int", "is_int", dArgs (top 10), dBody (top 10), dScope (top 10), ["value"], [], false, false, [], none, false⟩
def dshared_divisor : DefT := ⟨"shared_divisor", ("shared_divisor", none), "shared_divisor", "shared_divisor", dArgs (top 13), dBody (top 13), dScope (top 13), ["one", "other"], [], false, false, [], none, false⟩
def dparts_of : DefT := ⟨"parts_of", ("parts_of", none), "parts_of", "parts_of", dArgs (top 14), dBody (top 14), dScope (top 14), ["number"], [], false, false, [], none, false⟩
def ddigits_in : DefT := ⟨"digits_in", ("digits_in", none), "digits_in", "digits_in", dArgs (top 15), dBody (top 15), dScope (top 15), ["word", "sign", "found"], [], false, false, [], none, false⟩
def dinteger_in : DefT := ⟨"integer_in", ("integer_in", none), "integer_in", "integer_in", dArgs (top 16), dBody (top 16), dScope (top 16), ["word", "found"], [], false, false, [], none, false⟩
def dAmount___init__ : DefT := ⟨"Amount.__init__", ("Amount", some "__init__"), "__init__", "Amount.__init__", dArgs (sub 17 0), dBody (sub 17 0), dScope (sub 17 0), ["self", "top", "bottom", "value", "sign", "divisor"], [.int 1], false, true, [], none, false⟩
def dAmount_is_whole : DefT := ⟨"Amount.is_whole", ("Amount", some "is_whole"), "is_whole", "Amount.is_whole", dArgs (sub 17 1), dBody (sub 17 1), dScope (sub 17 1), ["self"], [], false, false, [], none, false⟩
def dAmount_is_number : DefT := ⟨"Amount.is_number", ("Amount", some "is_number"), "is_number", "Amount.is_number", dArgs (sub 17 2), dBody (sub 17 2), dScope (sub 17 2), ["value"], [], false, false, [], none, false⟩
def dAmount_of : DefT := ⟨"Amount.of", ("Amount", some "of"), "of", "Amount.of", dArgs (sub 17 3), dBody (sub 17 3), dScope (sub 17 3), ["value"], [], false, false, [], none, false⟩
def dAmount_total : DefT := ⟨"Amount.total", ("Amount", some "total"), "total", "Amount.total", dArgs (sub 17 4), dBody (sub 17 4), dScope (sub 17 4), ["numbers"], [], false, false, [], none, false⟩
def dAmount_read : DefT := ⟨"Amount.read", ("Amount", some "read"), "read", "Amount.read", dArgs (sub 17 5), dBody (sub 17 5), dScope (sub 17 5), ["cls", "text", "words", "numbers", "word", "found"], [], false, false, [], none, false⟩
def dAmount_over : DefT := ⟨"Amount.over", ("Amount", some "over"), "over", "Amount.over", dArgs (sub 17 6), dBody (sub 17 6), dScope (sub 17 6), ["self", "number"], [], false, false, [], none, false⟩
def dAmount___add__ : DefT := ⟨"Amount.__add__", ("Amount", some "__add__"), "__add__", "Amount.__add__", dArgs (sub 17 7), dBody (sub 17 7), dScope (sub 17 7), ["self", "other", "top", "bottom"], [], false, false, [], none, false⟩
def dAmount___radd__ : DefT := ⟨"Amount.__radd__", ("Amount", some "__radd__"), "__radd__", "Amount.__radd__", dArgs (sub 17 8), dBody (sub 17 8), dScope (sub 17 8), ["self", "other"], [], false, false, [], none, false⟩
def dAmount___sub__ : DefT := ⟨"Amount.__sub__", ("Amount", some "__sub__"), "__sub__", "Amount.__sub__", dArgs (sub 17 9), dBody (sub 17 9), dScope (sub 17 9), ["self", "other", "top", "bottom"], [], false, false, [], none, false⟩
def dAmount___rsub__ : DefT := ⟨"Amount.__rsub__", ("Amount", some "__rsub__"), "__rsub__", "Amount.__rsub__", dArgs (sub 17 10), dBody (sub 17 10), dScope (sub 17 10), ["self", "other"], [], false, false, [], none, false⟩
def dAmount___mul__ : DefT := ⟨"Amount.__mul__", ("Amount", some "__mul__"), "__mul__", "Amount.__mul__", dArgs (sub 17 11), dBody (sub 17 11), dScope (sub 17 11), ["self", "other", "top", "bottom"], [], false, false, [], none, false⟩
def dAmount___rmul__ : DefT := ⟨"Amount.__rmul__", ("Amount", some "__rmul__"), "__rmul__", "Amount.__rmul__", dArgs (sub 17 12), dBody (sub 17 12), dScope (sub 17 12), ["self", "other"], [], false, false, [], none, false⟩
def dAmount___floordiv__ : DefT := ⟨"Amount.__floordiv__", ("Amount", some "__floordiv__"), "__floordiv__", "Amount.__floordiv__", dArgs (sub 17 13), dBody (sub 17 13), dScope (sub 17 13), ["self", "other", "top", "bottom"], [], false, false, [], none, false⟩
def dAmount___rfloordiv__ : DefT := ⟨"Amount.__rfloordiv__", ("Amount", some "__rfloordiv__"), "__rfloordiv__", "Amount.__rfloordiv__", dArgs (sub 17 14), dBody (sub 17 14), dScope (sub 17 14), ["self", "other"], [], false, false, [], none, false⟩
def dAmount___mod__ : DefT := ⟨"Amount.__mod__", ("Amount", some "__mod__"), "__mod__", "Amount.__mod__", dArgs (sub 17 15), dBody (sub 17 15), dScope (sub 17 15), ["self", "other", "many"], [], false, false, [], none, false⟩
def dAmount___rmod__ : DefT := ⟨"Amount.__rmod__", ("Amount", some "__rmod__"), "__rmod__", "Amount.__rmod__", dArgs (sub 17 16), dBody (sub 17 16), dScope (sub 17 16), ["self", "other"], [], false, false, [], none, false⟩
def dAmount___neg__ : DefT := ⟨"Amount.__neg__", ("Amount", some "__neg__"), "__neg__", "Amount.__neg__", dArgs (sub 17 17), dBody (sub 17 17), dScope (sub 17 17), ["self"], [], false, false, [], none, false⟩
def dAmount___abs__ : DefT := ⟨"Amount.__abs__", ("Amount", some "__abs__"), "__abs__", "Amount.__abs__", dArgs (sub 17 18), dBody (sub 17 18), dScope (sub 17 18), ["self"], [], false, false, [], none, false⟩
def dAmount___lt__ : DefT := ⟨"Amount.__lt__", ("Amount", some "__lt__"), "__lt__", "Amount.__lt__", dArgs (sub 17 19), dBody (sub 17 19), dScope (sub 17 19), ["self", "other", "top", "bottom"], [], false, false, [], none, false⟩
def dAmount___le__ : DefT := ⟨"Amount.__le__", ("Amount", some "__le__"), "__le__", "Amount.__le__", dArgs (sub 17 20), dBody (sub 17 20), dScope (sub 17 20), ["self", "other", "top", "bottom"], [], false, false, [], none, false⟩
def dAmount___gt__ : DefT := ⟨"Amount.__gt__", ("Amount", some "__gt__"), "__gt__", "Amount.__gt__", dArgs (sub 17 21), dBody (sub 17 21), dScope (sub 17 21), ["self", "other", "top", "bottom"], [], false, false, [], none, false⟩
def dAmount___ge__ : DefT := ⟨"Amount.__ge__", ("Amount", some "__ge__"), "__ge__", "Amount.__ge__", dArgs (sub 17 22), dBody (sub 17 22), dScope (sub 17 22), ["self", "other", "top", "bottom"], [], false, false, [], none, false⟩
def dAmount___eq__ : DefT := ⟨"Amount.__eq__", ("Amount", some "__eq__"), "__eq__", "Amount.__eq__", dArgs (sub 17 23), dBody (sub 17 23), dScope (sub 17 23), ["self", "other"], [], false, false, [], none, false⟩
def dAmount___bool__ : DefT := ⟨"Amount.__bool__", ("Amount", some "__bool__"), "__bool__", "Amount.__bool__", dArgs (sub 17 24), dBody (sub 17 24), dScope (sub 17 24), ["self"], [], false, false, [], none, false⟩
def dAmount___str__ : DefT := ⟨"Amount.__str__", ("Amount", some "__str__"), "__str__", "Amount.__str__", dArgs (sub 17 25), dBody (sub 17 25), dScope (sub 17 25), ["self"], [], false, false, [], none, false⟩
def dAmount___repr__ : DefT := ⟨"Amount.__repr__", ("Amount", some "__repr__"), "__repr__", "Amount.__repr__", dArgs (sub 17 26), dBody (sub 17 26), dScope (sub 17 26), ["self"], [], false, false, [], none, false⟩
def dis_size : DefT := ⟨"is_size", ("is_size", none), "is_size", "is_size", dArgs (top 22), dBody (top 22), dScope (top 22), ["value"], [], false, false, [], none, false⟩
def dsize_in : DefT := ⟨"size_in", ("size_in", none), "size_in", "size_in", dArgs (top 23), dBody (top 23), dScope (top 23), ["word", "number"], [], false, false, [], none, false⟩
def dZero___init__ : DefT := ⟨"Zero.__init__", ("Zero", some "__init__"), "__init__", "Zero.__init__", dArgs (sub 24 1), dBody (sub 24 1), dScope (sub 24 1), ["self"], [], false, true, [], none, false⟩
def dZero_read : DefT := ⟨"Zero.read", ("Zero", some "read"), "read", "Zero.read", dArgs (sub 24 2), dBody (sub 24 2), dScope (sub 24 2), ["cls", "text", "words"], [], false, false, [], none, false⟩
def dZero_is_unknown : DefT := ⟨"Zero.is_unknown", ("Zero", some "is_unknown"), "is_unknown", "Zero.is_unknown", dArgs (sub 24 3), dBody (sub 24 3), dScope (sub 24 3), ["self"], [], false, false, [], none, false⟩
def dZero_slides : DefT := ⟨"Zero.slides", ("Zero", some "slides"), "slides", "Zero.slides", dArgs (sub 24 4), dBody (sub 24 4), dScope (sub 24 4), ["self"], [], false, false, [], none, false⟩
def dZero_walks : DefT := ⟨"Zero.walks", ("Zero", some "walks"), "walks", "Zero.walks", dArgs (sub 24 5), dBody (sub 24 5), dScope (sub 24 5), ["self"], [], false, false, [], none, false⟩
def dZero_lets : DefT := ⟨"Zero.lets", ("Zero", some "lets"), "lets", "Zero.lets", dArgs (sub 24 6), dBody (sub 24 6), dScope (sub 24 6), ["self", "other"], [], false, false, [], none, false⟩
def dZero___le__ : DefT := ⟨"Zero.__le__", ("Zero", some "__le__"), "__le__", "Zero.__le__", dArgs (sub 24 7), dBody (sub 24 7), dScope (sub 24 7), ["self", "other"], [], false, false, [], none, false⟩
def dZero___lt__ : DefT := ⟨"Zero.__lt__", ("Zero", some "__lt__"), "__lt__", "Zero.__lt__", dArgs (sub 24 8), dBody (sub 24 8), dScope (sub 24 8), ["self", "other"], [], false, false, [], none, false⟩
def dZero___eq__ : DefT := ⟨"Zero.__eq__", ("Zero", some "__eq__"), "__eq__", "Zero.__eq__", dArgs (sub 24 9), dBody (sub 24 9), dScope (sub 24 9), ["self", "other"], [], false, false, [], none, false⟩
def dZero___str__ : DefT := ⟨"Zero.__str__", ("Zero", some "__str__"), "__str__", "Zero.__str__", dArgs (sub 24 10), dBody (sub 24 10), dScope (sub 24 10), ["self"], [], false, false, [], none, false⟩
def sFixed___init__ : SupT := ⟨⟨"Fixed.__init__", ("Fixed", some "__init__"), "__init__", "Fixed.__init__", dArgs (sub 25 1), dBody (sub 25 1), dScope (sub 25 1), ["self"], [], false, true, [], none, false⟩, "Fixed", [("Fixed", "Zero")], (PySem.Challenge.pw_zerowalks_k09_zeros_in_order.main.file : Str)⟩
def sStill___init__ : SupT := ⟨⟨"Still.__init__", ("Still", some "__init__"), "__init__", "Still.__init__", dArgs (sub 26 1), dBody (sub 26 1), dScope (sub 26 1), ["self"], [], false, true, [], none, false⟩, "Still", [("Still", "Zero")], (PySem.Challenge.pw_zerowalks_k09_zeros_in_order.main.file : Str)⟩
def sWalking___init__ : SupT := ⟨⟨"Walking.__init__", ("Walking", some "__init__"), "__init__", "Walking.__init__", dArgs (sub 27 1), dBody (sub 27 1), dScope (sub 27 1), ["self", "pace"], [.int 1], false, true, [], none, false⟩, "Walking", [("Walking", "Zero"), ("SlidingWalk", "Sliding")], (PySem.Challenge.pw_zerowalks_k09_zeros_in_order.main.file : Str)⟩
def sSliding___init__ : SupT := ⟨⟨"Sliding.__init__", ("Sliding", some "__init__"), "__init__", "Sliding.__init__", dArgs (sub 28 1), dBody (sub 28 1), dScope (sub 28 1), ["self"], [], false, true, [], none, false⟩, "Sliding", [("Sliding", "Zero"), ("SlidingWalk", "Zero")], (PySem.Challenge.pw_zerowalks_k09_zeros_in_order.main.file : Str)⟩
def sSlidingWalk___init__ : SupT := ⟨⟨"SlidingWalk.__init__", ("SlidingWalk", some "__init__"), "__init__", "SlidingWalk.__init__", dArgs (sub 29 1), dBody (sub 29 1), dScope (sub 29 1), ["self", "pace"], [.int 1], false, true, [], none, false⟩, "SlidingWalk", [("SlidingWalk", "Walking")], (PySem.Challenge.pw_zerowalks_k09_zeros_in_order.main.file : Str)⟩
def dzero_of : DefT := ⟨"zero_of", ("zero_of", none), "zero_of", "zero_of", dArgs (top 30), dBody (top 30), dScope (top 30), ["kind", "pace"], [], false, false, [], none, false⟩
def dzero_in : DefT := ⟨"zero_in", ("zero_in", none), "zero_in", "zero_in", dArgs (top 31), dBody (top 31), dScope (top 31), ["words", "at", "kind", "pace", "many"], [], false, false, [], none, false⟩
def d_law_pen : DefT := ⟨"_law_pen", ("_law_pen", none), "_law_pen", "_law_pen", dArgs (top 33), dBody (top 33), dScope (top 33), ["_law_script"], [], true, false, [], none, false⟩
def d_law_draw : DefT := ⟨"_law_draw", ("_law_draw", none), "_law_draw", "_law_draw", dArgs (top 34), dBody (top 34), dScope (top 34), ["_law_pen_here", "_law_many", "_law_digit", "_law_begun", "_law_lone", "_law_great", "_law_mixed"], [], false, false, [], none, false⟩
def d_law_pick : DefT := ⟨"_law_pick", ("_law_pick", none), "_law_pick", "_law_pick", dArgs (top 35), dBody (top 35), dScope (top 35), ["_law_pen_here", "_law_some"], [], false, false, [], none, false⟩
def d_law_share : DefT := ⟨"_law_share", ("_law_share", none), "_law_share", "_law_share", dArgs (top 36), dBody (top 36), dScope (top 36), ["_law_pen_here", "_law_top"], [], false, false, [], none, false⟩
def d_law_every : DefT := ⟨"_law_every", ("_law_every", none), "_law_every", "_law_every", dArgs (top 37), dBody (top 37), dScope (top 37), ["_law_shares", "_law_found", "_law_share_here"], [], false, false, ["_law_found"], none, false⟩
def d_law_lets : DefT := ⟨"_law_lets", ("_law_lets", none), "_law_lets", "_law_lets", dArgs (top 38), dBody (top 38), dScope (top 38), ["_law_row", "_law_other"], [], false, false, [], none, false⟩
def dlaw : DefT := ⟨"law", ("law", none), "law", "law", dArgs (top 39), dBody (top 39), dScope (top 39), ["_law_script", "_law_pen_here", "_law_turn", "_law_shares", "_law_again", "_law_top", "_law_bottom", "_law_rows", "_law_row", "_law_other", "_law_due", "_law_less", "_law_one", "_law_two", "_law_some"], [], false, false, ["_law_shares"], none, false⟩
def xBadAmount : DefT := ⟨"BadAmount.__init__", ("BadAmount", some "__init__"), "__init__", "BadAmount.__init__", dArgs (sub 5 0), dBody (sub 5 0), dScope (sub 5 0), ["self", "value"], [], false, true, [], none, false⟩
def xBadZero : DefT := ⟨"BadZero.__init__", ("BadZero", some "__init__"), "__init__", "BadZero.__init__", dArgs (sub 6 0), dBody (sub 6 0), dScope (sub 6 0), ["self", "part"], [], false, true, [], none, false⟩
def xBadText : DefT := ⟨"BadText.__init__", ("BadText", some "__init__"), "__init__", "BadText.__init__", dArgs (sub 7 0), dBody (sub 7 0), dScope (sub 7 0), ["self", "line", "word"], [], false, true, [], none, false⟩
def tDefs0 : List DefT := [d_wall, dis_int, dshared_divisor, dparts_of, ddigits_in, dinteger_in, dAmount___init__, dAmount_is_whole, dAmount_is_number, dAmount_of, dAmount_total, dAmount_read, dAmount_over, dAmount___add__, dAmount___radd__, dAmount___sub__, dAmount___rsub__, dAmount___mul__, dAmount___rmul__, dAmount___floordiv__]
def tDefs1 : List DefT := [dAmount___rfloordiv__, dAmount___mod__, dAmount___rmod__, dAmount___neg__, dAmount___abs__, dAmount___lt__, dAmount___le__, dAmount___gt__, dAmount___ge__, dAmount___eq__, dAmount___bool__, dAmount___str__, dAmount___repr__, dis_size, dsize_in, dZero___init__, dZero_read, dZero_is_unknown, dZero_slides, dZero_walks]
def tDefs2 : List DefT := [dZero_lets, dZero___le__, dZero___lt__, dZero___eq__, dZero___str__, dzero_of, dzero_in, d_law_pen, d_law_draw, d_law_pick, d_law_share, d_law_every, d_law_lets, dlaw]
def tCls0 : List (Str × ClsI) := [("Amount", ⟨[("is_whole", .prop "Amount.is_whole"), ("is_number", .stat "Amount.is_number"), ("of", .stat "Amount.of"), ("total", .stat "Amount.total"), ("read", .clsm "Amount.read"), ("over", .meth "Amount.over"), ("__add__", .meth "Amount.__add__"), ("__radd__", .meth "Amount.__radd__"), ("__sub__", .meth "Amount.__sub__"), ("__rsub__", .meth "Amount.__rsub__"), ("__mul__", .meth "Amount.__mul__"), ("__rmul__", .meth "Amount.__rmul__"), ("__floordiv__", .meth "Amount.__floordiv__"), ("__rfloordiv__", .meth "Amount.__rfloordiv__"), ("__mod__", .meth "Amount.__mod__"), ("__rmod__", .meth "Amount.__rmod__"), ("__neg__", .meth "Amount.__neg__"), ("__abs__", .meth "Amount.__abs__"), ("__lt__", .meth "Amount.__lt__"), ("__le__", .meth "Amount.__le__"), ("__gt__", .meth "Amount.__gt__"), ("__ge__", .meth "Amount.__ge__"), ("__eq__", .meth "Amount.__eq__"), ("__bool__", .meth "Amount.__bool__"), ("__str__", .meth "Amount.__str__"), ("__repr__", .meth "Amount.__repr__"), ("__ne__", .dflt)], ["top", "bottom"], ["Amount"], true⟩), ("Zero", ⟨[("WORD", .con (.str "zero")), ("read", .clsm "Zero.read"), ("is_unknown", .prop "Zero.is_unknown"), ("slides", .prop "Zero.slides"), ("walks", .prop "Zero.walks"), ("lets", .meth "Zero.lets"), ("__le__", .meth "Zero.__le__"), ("__lt__", .meth "Zero.__lt__"), ("__eq__", .meth "Zero.__eq__"), ("__str__", .meth "Zero.__str__"), ("__ne__", .dflt), ("__gt__", .dflt), ("__ge__", .dflt)], ["pace"], ["Zero"], true⟩), ("Fixed", ⟨[("WORD", .con (.str "fixed")), ("read", .clsm "Zero.read"), ("is_unknown", .prop "Zero.is_unknown"), ("slides", .prop "Zero.slides"), ("walks", .prop "Zero.walks"), ("lets", .meth "Zero.lets"), ("__le__", .meth "Zero.__le__"), ("__lt__", .meth "Zero.__lt__"), ("__eq__", .meth "Zero.__eq__"), ("__str__", .meth "Zero.__str__"), ("__ne__", .dflt), ("__gt__", .dflt), ("__ge__", .dflt)], ["pace"], ["Fixed", "Zero"], true⟩)]
def tCls1 : List (Str × ClsI) := [("Still", ⟨[("WORD", .con (.str "still")), ("read", .clsm "Zero.read"), ("is_unknown", .prop "Zero.is_unknown"), ("slides", .prop "Zero.slides"), ("walks", .prop "Zero.walks"), ("lets", .meth "Zero.lets"), ("__le__", .meth "Zero.__le__"), ("__lt__", .meth "Zero.__lt__"), ("__eq__", .meth "Zero.__eq__"), ("__str__", .meth "Zero.__str__"), ("__ne__", .dflt), ("__gt__", .dflt), ("__ge__", .dflt)], ["pace"], ["Still", "Zero"], true⟩), ("Walking", ⟨[("WORD", .con (.str "walking")), ("read", .clsm "Zero.read"), ("is_unknown", .prop "Zero.is_unknown"), ("slides", .prop "Zero.slides"), ("walks", .prop "Zero.walks"), ("lets", .meth "Zero.lets"), ("__le__", .meth "Zero.__le__"), ("__lt__", .meth "Zero.__lt__"), ("__eq__", .meth "Zero.__eq__"), ("__str__", .meth "Zero.__str__"), ("__ne__", .dflt), ("__gt__", .dflt), ("__ge__", .dflt)], ["pace"], ["Walking", "Zero"], true⟩), ("Sliding", ⟨[("WORD", .con (.str "sliding")), ("read", .clsm "Zero.read"), ("is_unknown", .prop "Zero.is_unknown"), ("slides", .prop "Zero.slides"), ("walks", .prop "Zero.walks"), ("lets", .meth "Zero.lets"), ("__le__", .meth "Zero.__le__"), ("__lt__", .meth "Zero.__lt__"), ("__eq__", .meth "Zero.__eq__"), ("__str__", .meth "Zero.__str__"), ("__ne__", .dflt), ("__gt__", .dflt), ("__ge__", .dflt)], ["pace"], ["Sliding", "Zero"], true⟩)]
def tCls2 : List (Str × ClsI) := [("SlidingWalk", ⟨[("WORD", .con (.str "slidewalk")), ("read", .clsm "Zero.read"), ("is_unknown", .prop "Zero.is_unknown"), ("slides", .prop "Zero.slides"), ("walks", .prop "Zero.walks"), ("lets", .meth "Zero.lets"), ("__le__", .meth "Zero.__le__"), ("__lt__", .meth "Zero.__lt__"), ("__eq__", .meth "Zero.__eq__"), ("__str__", .meth "Zero.__str__"), ("__ne__", .dflt), ("__gt__", .dflt), ("__ge__", .dflt)], ["pace"], ["SlidingWalk", "Walking", "Sliding", "Zero"], true⟩)]
def tGlo0 : List (Str × He.Dv) := [("Amount", .glo "Amount"), ("Zero", .glo "Zero"), ("Fixed", .glo "Fixed"), ("Still", .glo "Still"), ("Walking", .glo "Walking"), ("Sliding", .glo "Sliding"), ("SlidingWalk", .glo "SlidingWalk"), ("DIGITS", .str "0123456789")]
def tFree0 : List Str := ["NotImplemented", "ValueError", "abs", "all", "bool", "int", "isinstance", "len", "list", "range", "repr", "str", "super"]
def tTops0 : List Str := ["_wall", "is_int", "shared_divisor", "parts_of", "digits_in", "integer_in", "is_size", "size_in", "zero_of", "zero_in", "_law_pen", "_law_draw", "_law_pick", "_law_share", "_law_every", "_law_lets", "law"]
def tInis0 : List (Str × Str) := [("Amount", "Amount.__init__"), ("Zero", "Zero.__init__"), ("Fixed", "Fixed.__init__"), ("Still", "Still.__init__"), ("Walking", "Walking.__init__"), ("Sliding", "Sliding.__init__"), ("SlidingWalk", "SlidingWalk.__init__")]
def tTups0 : List (Str × List He.Dv) := [("PACED", [.str "walking", .str "slidewalk"]), ("SLIDING", [.str "sliding", .str "slidewalk"]), ("KINDS", [.str "fixed", .str "still", .str "walking", .str "sliding", .str "slidewalk"])]
def tExs0 : List (Str × ExT) := [("ReadError", ⟨[], none, ["ReadError"]⟩), ("BadInput", ⟨[], none, ["BadInput", "ReadError"]⟩), ("NoAnswer", ⟨[], none, ["NoAnswer", "ReadError"]⟩), ("BadAmount", ⟨["value"], some xBadAmount, ["BadAmount", "BadInput", "ReadError"]⟩), ("BadZero", ⟨["part"], some xBadZero, ["BadZero", "BadInput", "ReadError"]⟩)]
def tExs1 : List (Str × ExT) := [("BadText", ⟨["line", "word"], some xBadText, ["BadText", "BadInput", "ReadError"]⟩), ("NoDivisor", ⟨[], none, ["NoDivisor", "NoAnswer", "ReadError"]⟩)]
def tTabs0 : List (Str × Option Str) := []
def tSups0 : List SupT := [sFixed___init__, sStill___init__, sWalking___init__, sSliding___init__, sSlidingWalk___init__]
def T : TextT := ⟨(tDefs0 ++ tDefs1 ++ tDefs2), (tCls0 ++ tCls1 ++ tCls2), (tInis0), (tGlo0), (tFree0), (tTops0), 200, (tTups0), (tExs0 ++ tExs1), (tTabs0), (tSups0)⟩
theorem okT : T.okT = true := by decide +kernel
theorem lamT : lamTop T = true := by decide +kernel
theorem supT : (T.sups.all fun s => supP (PySem.Challenge.rw_zerowalks_k09_zeros_in_order).prog s) = true := by kernel_rfl
abbrev R : PySem.W.OpenRow := PySem.W.OpenLaw.row PySem.Challenge.rw_zerowalks_k09_zeros_in_order
abbrev qv : Program := PySem.W.view R.prog [39]
def loose0 : List Str := ["_wall", "ReadError", "BadInput", "NoAnswer", "BadAmount", "BadZero", "BadText", "NoDivisor", "is_int", "DIGITS", "shared_divisor", "parts_of", "digits_in", "integer_in", "Amount", "PACED", "SLIDING", "KINDS", "is_size", "size_in"]
def loose1 : List Str := ["Zero", "Fixed", "Still", "Walking", "Sliding", "SlidingWalk", "zero_of", "zero_in", "_law_pen", "_law_draw", "_law_pick", "_law_share", "_law_every", "_law_lets"]
def loose : List Str := loose0 ++ loose1
def ads0 : List Addr := [3, 6, 4, 21, 31, 44, 56, 75, 94, 113, 125, 134, 141, 148, 153, 160, 371, 376, 377, 378, 385, 392, 478, 501, 522, 544, 565, 587, 596, 603, 610, 617, 624, 631, 638, 645, 650, 0, 20, 30, 43, 55, 74, 93, 112, 124, 133, 140, 147, 152, 159, 370, 384, 391, 477, 500, 521, 543, 564, 586, 595, 602, 609, 616, 623, 630, 637, 644, 649, 15, 16, 17, 18, 19, 29, 32, 42, 54, 72, 73, 91, 92, 110, 111, 123, 128, 129, 130, 131, 132, 135, 136, 137, 138, 139, 142, 143, 144, 145, 146]
def ads1 : List Addr := [149, 150, 151, 154, 155, 156, 157, 158, 175, 183, 192, 202, 212, 220, 228, 235, 242, 249, 256, 263, 270, 277, 284, 291, 298, 305, 312, 319, 326, 333, 340, 347, 354, 361, 368, 369, 372, 373, 379, 380, 381, 382, 383, 386, 387, 388, 389, 390, 406, 415, 424, 432, 440, 447, 454, 461, 468, 475, 476, 479, 480, 498, 499, 519, 520, 541, 542, 562, 563, 584, 585, 590, 591, 592, 593, 594, 597, 598, 599, 600, 601, 604, 605, 606, 607, 608, 611, 612, 613, 614, 615, 618, 619, 620, 621, 622, 625, 626, 627, 628]
def ads2 : List Addr := [629, 632, 633, 634, 635, 636, 639, 640, 641, 642, 643, 646, 647, 648, 71, 90, 109, 174, 168, 182, 190, 191, 200, 201, 210, 211, 218, 219, 227, 234, 241, 248, 255, 262, 269, 276, 283, 290, 297, 304, 311, 318, 325, 332, 339, 346, 353, 360, 367, 405, 413, 414, 423, 431, 439, 446, 453, 460, 467, 474, 497, 486, 518, 507, 540, 533, 528, 561, 550, 583, 576, 571, 66, 67, 68, 69, 70, 85, 86, 87, 88, 89, 104, 105, 106, 107, 108, 169, 170, 171, 172, 173, 181, 189, 193, 199, 203, 209, 213, 217]
def ads3 : List Addr := [221, 222, 223, 224, 225, 226, 229, 230, 231, 232, 233, 236, 237, 238, 239, 240, 243, 244, 245, 246, 247, 250, 251, 252, 253, 254, 257, 258, 259, 260, 261, 264, 265, 266, 267, 268, 271, 272, 273, 274, 275, 278, 279, 280, 281, 282, 285, 286, 287, 288, 289, 292, 293, 294, 295, 296, 299, 300, 301, 302, 303, 306, 307, 308, 309, 310, 313, 314, 315, 316, 317, 320, 321, 322, 323, 324, 327, 328, 329, 330, 331, 334, 335, 336, 337, 338, 341, 342, 343, 344, 345, 348, 349, 350, 351, 352, 355, 356, 357, 358]
def ads4 : List Addr := [359, 362, 363, 364, 365, 366, 400, 401, 402, 403, 404, 412, 416, 422, 430, 438, 441, 442, 443, 444, 445, 448, 449, 450, 451, 452, 455, 456, 457, 458, 459, 462, 463, 464, 465, 466, 469, 470, 471, 472, 473, 492, 493, 494, 495, 496, 513, 514, 515, 516, 517, 535, 536, 537, 538, 539, 556, 557, 558, 559, 560, 578, 579, 580, 581, 582, 176, 177, 178, 179, 180, 184, 185, 186, 187, 188, 194, 195, 196, 197, 198, 204, 205, 206, 207, 208, 214, 215, 216, 407, 408, 409, 410, 411, 417, 418, 419, 420, 421, 425]
def ads5 : List Addr := [426, 427, 428, 429, 433, 434, 435, 436, 437]
def ads : List Addr := ads0 ++ ads1 ++ ads2 ++ ads3 ++ ads4 ++ ads5
def ob (s : PySem.W.SharedT) : TextT.Al := T.obsG ads (HandSHeadRun.getT s)
theorem ob_eq (s : PySem.W.SharedT) : ob s = (T.hook ads).obs s.abs := TextT.obsG_eq T (HandSHeadRun.getT_eq s)
theorem run (w : World) : HandSHeadRun.RunEq R qv (T.hook ads) ob 20000 loose w := by
  intro os
  kernel_rfl
end Lw
namespace Lw
open PySem L2 Zw
noncomputable def B_wall_c0 (E : En) : M Bool := fail
noncomputable def B_wall_w1 (E : En) : MS := (seqS nextS
  nextS)
noncomputable def B_wall (E : En) : MS := (seqS (whileM (B_wall_c0 E) (B_wall_w1 E))
  nextS)
theorem eB_wall : BodyIs T d_wall (fun E _ => B_wall E) := by
  intro c cl c' cl'
  kernel_rfl
theorem kB_wall (l : Nat) {ds : List Dat} (h : ds.length = 1) : (T.en (l + 2)).call "_wall" ds = callM (runFn 1 1 (B_wall (T.en (l + 1)))) ds := call_en (d := d_wall) (by kernel_rfl) rfl (by kernel_rfl) rfl rfl eB_wall h
theorem wB_wall (l : Nat) {ds vals : List Dat} {kw : List (Str × Dat)} (h : bindAll d_wall.ps ds kw (d_wall.dfl.map dvDat) = some vals) : (T.en (l + 2)).callK "_wall" ds kw = callM (runFn 1 1 (B_wall (T.en (l + 1)))) vals := callK_en (d := d_wall) (by kernel_rfl) rfl (by kernel_rfl) rfl eB_wall h
noncomputable def Bis_int (E : En) : MS := (seqS (bndS (andV (bnd (consA (rdSlot 0) (consA (pur (.ty "int")) nilA)) E.isi) (bnd (bnd (consA (rdSlot 0) (consA (pur (.ty "bool")) nilA)) E.isi) E.notV)) retS)
  nextS)
theorem eBis_int : BodyIs T dis_int (fun E _ => Bis_int E) := by
  intro c cl c' cl'
  kernel_rfl
theorem kBis_int (l : Nat) {ds : List Dat} (h : ds.length = 1) : (T.en (l + 2)).call "is_int" ds = callM (runFn 1 1 (Bis_int (T.en (l + 1)))) ds := call_en (d := dis_int) (by kernel_rfl) rfl (by kernel_rfl) rfl rfl eBis_int h
theorem wBis_int (l : Nat) {ds vals : List Dat} {kw : List (Str × Dat)} (h : bindAll dis_int.ps ds kw (dis_int.dfl.map dvDat) = some vals) : (T.en (l + 2)).callK "is_int" ds kw = callM (runFn 1 1 (Bis_int (T.en (l + 1)))) vals := callK_en (d := dis_int) (by kernel_rfl) rfl (by kernel_rfl) rfl eBis_int h
noncomputable def Bshared_divisor_c0 (E : En) : M Bool := (bnd (rdSlot 1) fun x1 => bnd (pur (.int 0)) fun x2 => bnd (E.cmp .Gt x1 x2) E.tru)
noncomputable def Bshared_divisor_w1 (E : En) : MS := (seqS (bndS (consA (rdSlot 1) (consA (bnd (rdSlot 0) fun x3 => bnd (rdSlot 1) fun x4 => E.bin .Mod x3 x4) nilA)) (par2 0 1))
  nextS)
noncomputable def Bshared_divisor (E : En) : MS := (seqS (whileM (Bshared_divisor_c0 E) (Bshared_divisor_w1 E))
  (seqS (bndS (rdSlot 0) retS)
  nextS))
theorem eBshared_divisor : BodyIs T dshared_divisor (fun E _ => Bshared_divisor E) := by
  intro c cl c' cl'
  kernel_rfl
theorem kBshared_divisor (l : Nat) {ds : List Dat} (h : ds.length = 2) : (T.en (l + 2)).call "shared_divisor" ds = callM (runFn 2 2 (Bshared_divisor (T.en (l + 1)))) ds := call_en (d := dshared_divisor) (by kernel_rfl) rfl (by kernel_rfl) rfl rfl eBshared_divisor h
theorem wBshared_divisor (l : Nat) {ds vals : List Dat} {kw : List (Str × Dat)} (h : bindAll dshared_divisor.ps ds kw (dshared_divisor.dfl.map dvDat) = some vals) : (T.en (l + 2)).callK "shared_divisor" ds kw = callM (runFn 2 2 (Bshared_divisor (T.en (l + 1)))) vals := callK_en (d := dshared_divisor) (by kernel_rfl) rfl (by kernel_rfl) rfl eBshared_divisor h
noncomputable def Bparts_of (E : En) : MS := (seqS (bndS (ifM (bnd (bnd (consA (rdSlot 0) (consA (pur (.cls "Amount")) nilA)) E.isi) E.tru) (tupM (consA (bnd (rdSlot 0) fun x2 => E.getX x2 "top") (consA (bnd (rdSlot 0) fun x1 => E.getX x1 "bottom") nilA))) (tupM (consA (rdSlot 0) (consA (pur (.int 1)) nilA)))) retS)
  nextS)
theorem eBparts_of : BodyIs T dparts_of (fun E _ => Bparts_of E) := by
  intro c cl c' cl'
  kernel_rfl
theorem kBparts_of (l : Nat) {ds : List Dat} (h : ds.length = 1) : (T.en (l + 2)).call "parts_of" ds = callM (runFn 1 1 (Bparts_of (T.en (l + 1)))) ds := call_en (d := dparts_of) (by kernel_rfl) rfl (by kernel_rfl) rfl rfl eBparts_of h
theorem wBparts_of (l : Nat) {ds vals : List Dat} {kw : List (Str × Dat)} (h : bindAll dparts_of.ps ds kw (dparts_of.dfl.map dvDat) = some vals) : (T.en (l + 2)).callK "parts_of" ds kw = callM (runFn 1 1 (Bparts_of (T.en (l + 1)))) vals := callK_en (d := dparts_of) (by kernel_rfl) rfl (by kernel_rfl) rfl eBparts_of h
noncomputable def Bdigits_in_e0 (E : En) : M Dat := (bnd (rdSlot 1) fun x3 => bnd (bnd (pur (.str "0123456789")) vw) fun x4 => inn false x3 x4)
noncomputable def Bdigits_in (E : En) : MS := (seqS (ifS (orT (bnd (rdSlot 0) fun x5 => bnd (pur (.str "")) fun x6 => bnd (E.cmp .Eq x5 x6) E.tru) (notT (bnd (b1 rAllC (bnd (lcM [1] (bnd (rdSlot 0) itemsM) (asgS 1) (pur true) (Bdigits_in_e0 E)) vw)) E.tru))) (seqS (bndS (pur .non) retS)
  nextS) nextS)
  (seqS (bndS (bA rIntC (consA (rdSlot 0) nilA)) (asgS 2))
  (seqS (bndS (ifM (bnd (bA (orR rStrI E.rStrO) (consA (rdSlot 2) nilA)) fun x1 => bnd (rdSlot 0) fun x2 => bnd (E.cmp .Eq x1 x2) E.tru) (rdSlot 2) (pur .non)) retS)
  nextS)))
theorem eBdigits_in : BodyIs T ddigits_in (fun E _ => Bdigits_in E) := by
  intro c cl c' cl'
  kernel_rfl
theorem kBdigits_in (l : Nat) {ds : List Dat} (h : ds.length = 1) : (T.en (l + 2)).call "digits_in" ds = callM (runFn 1 3 (Bdigits_in (T.en (l + 1)))) ds := call_en (d := ddigits_in) (by kernel_rfl) rfl (by kernel_rfl) rfl rfl eBdigits_in h
theorem wBdigits_in (l : Nat) {ds vals : List Dat} {kw : List (Str × Dat)} (h : bindAll ddigits_in.ps ds kw (ddigits_in.dfl.map dvDat) = some vals) : (T.en (l + 2)).callK "digits_in" ds kw = callM (runFn 1 3 (Bdigits_in (T.en (l + 1)))) vals := callK_en (d := ddigits_in) (by kernel_rfl) rfl (by kernel_rfl) rfl eBdigits_in h
noncomputable def Binteger_in (E : En) : MS := (seqS (ifS (bnd (bnd (rdSlot 0) fun x11 => bnd (partM none) fun l12 => bnd (partM (some (pur (.int 1)))) fun h13 => sliceM x11 l12 h13) fun x9 => bnd (pur (.str "-")) fun x10 => bnd (E.cmp .NotEq x9 x10) E.tru) (seqS (bndS (bnd (consA (rdSlot 0) nilA) (E.call "digits_in")) retS)
  nextS) nextS)
  (seqS (bndS (bnd (consA (bnd (rdSlot 0) fun x6 => bnd (partM (some (pur (.int 1)))) fun l7 => bnd (partM none) fun h8 => sliceM x6 l7 h8) nilA) (E.call "digits_in")) (asgS 1))
  (seqS (bndS (ifM (orT (bnd (rdSlot 1) fun x3 => bnd (pur .non) fun x4 => bnd (E.cmp .Is x3 x4) E.tru) (bnd (rdSlot 1) fun x1 => bnd (pur (.int 0)) fun x2 => bnd (E.cmp .Eq x1 x2) E.tru)) (pur .non) (bnd (rdSlot 1) fun x5 => E.una .USub x5)) retS)
  nextS)))
theorem eBinteger_in : BodyIs T dinteger_in (fun E _ => Binteger_in E) := by
  intro c cl c' cl'
  kernel_rfl
theorem kBinteger_in (l : Nat) {ds : List Dat} (h : ds.length = 1) : (T.en (l + 2)).call "integer_in" ds = callM (runFn 1 2 (Binteger_in (T.en (l + 1)))) ds := call_en (d := dinteger_in) (by kernel_rfl) rfl (by kernel_rfl) rfl rfl eBinteger_in h
theorem wBinteger_in (l : Nat) {ds vals : List Dat} {kw : List (Str × Dat)} (h : bindAll dinteger_in.ps ds kw (dinteger_in.dfl.map dvDat) = some vals) : (T.en (l + 2)).callK "integer_in" ds kw = callM (runFn 1 2 (Binteger_in (T.en (l + 1)))) vals := callK_en (d := dinteger_in) (by kernel_rfl) rfl (by kernel_rfl) rfl eBinteger_in h
noncomputable def BAmount___init___f0 (E : En) : MS := (seqS (ifS (notT (bnd (bnd (consA (rdSlot 3) nilA) (E.call "is_int")) E.tru)) (seqS (bndS (consA (rdSlot 3) nilA) (E.raiseS "BadAmount"))
  nextS) nextS)
  nextS)
noncomputable def BAmount___init__ (E : En) : MS := (seqS (bndS (bnd (tupM (consA (rdSlot 1) (consA (rdSlot 2) nilA))) itemsM) (forM (asgS 3) (BAmount___init___f0 E)))
  (seqS (ifS (bnd (rdSlot 2) fun x12 => bnd (pur (.int 0)) fun x13 => bnd (E.cmp .Eq x12 x13) E.tru) (seqS (E.raiseS "NoDivisor" [])
  nextS) nextS)
  (seqS (bndS (ifM (bnd (rdSlot 2) fun x9 => bnd (pur (.int 0)) fun x10 => bnd (E.cmp .Lt x9 x10) E.tru) (bnd (pur (.int 1)) fun x11 => E.una .USub x11) (pur (.int 1))) (asgS 4))
  (seqS (bndS (bnd (rdSlot 4) fun x7 => bnd (bnd (consA (bA (orR rAbsI (E.rUna "__abs__")) (consA (rdSlot 1) nilA)) (consA (bA (orR rAbsI (E.rUna "__abs__")) (consA (rdSlot 2) nilA)) nilA)) (E.call "shared_divisor")) fun x8 => E.bin .Mult x7 x8) (asgS 5))
  (seqS (bndS (bnd (rdSlot 1) fun x5 => bnd (rdSlot 5) fun x6 => E.bin .FloorDiv x5 x6) fun d4 => E.fldS 0 "top" d4)
  (seqS (bndS (bnd (rdSlot 2) fun x2 => bnd (rdSlot 5) fun x3 => E.bin .FloorDiv x2 x3) fun d1 => E.fldS 0 "bottom" d1)
  nextS))))))
theorem eBAmount___init__ : BodyIs T dAmount___init__ (fun E _ => BAmount___init__ E) := by
  intro c cl c' cl'
  kernel_rfl
theorem kBAmount___init__ (l : Nat) {ds : List Dat} (h1 : 2 ≤ ds.length + 1) (h2 : ds.length + 1 ≤ 3) : (T.en (l + 2)).make "Amount" ds = callM (runIn 3 6 (BAmount___init__ (T.en (l + 1)))) (Dat.ins "Amount" [] :: (ds ++ (dAmount___init__.dfl.map dvDat).drop (ds.length + 1 + dAmount___init__.dfl.length - 3))) := make_en (q := "Amount.__init__") (by kernel_rfl) (by kernel_rfl) rfl (by kernel_rfl) rfl eBAmount___init__ h1 h2
theorem iBAmount___init__ (l : Nat) : (T.en (l + 2)).ini "Amount" = some ⟨runIn 3 6 (BAmount___init__ (T.en (l + 1))), 3, dAmount___init__.dfl.map dvDat, adP dAmount___init__.at_, dAmount___init__.ps⟩ := ini_en (q := "Amount.__init__") (by kernel_rfl) (by kernel_rfl) rfl (by kernel_rfl) rfl eBAmount___init__
theorem wBAmount___init__ (l : Nat) {ds vals : List Dat} {kw : List (Str × Dat)} {rest : List (Option Dat)} (hv : bindAll dAmount___init__.ps (none :: ds.map some) (kw.map fun p => (p.1, some p.2)) ((dAmount___init__.dfl.map dvDat).map some) = some (none :: rest)) (hr : allSome rest = some vals) : (T.en (l + 2)).makeK "Amount" ds kw = callM (runIn 3 6 (BAmount___init__ (T.en (l + 1)))) (Dat.ins "Amount" [] :: vals) := makeK_en (q := "Amount.__init__") (by kernel_rfl) (by kernel_rfl) rfl (by kernel_rfl) rfl eBAmount___init__ hv hr
noncomputable def BAmount_is_whole (E : En) : MS := (seqS (bndS (bnd (consA (pur (.int 0)) nilA) (E.call "_wall")) fun _ => nextS)
  nextS)
theorem eBAmount_is_whole : BodyIs T dAmount_is_whole (fun E _ => BAmount_is_whole E) := by
  intro c cl c' cl'
  kernel_rfl
theorem kBAmount_is_whole (l : Nat) {ds : List Dat} (h : ds.length = 1) : (T.en (l + 2)).call "Amount.is_whole" ds = callM (runFn 1 1 (BAmount_is_whole (T.en (l + 1)))) ds := call_en (d := dAmount_is_whole) (by kernel_rfl) rfl (by kernel_rfl) rfl rfl eBAmount_is_whole h
theorem wBAmount_is_whole (l : Nat) {ds vals : List Dat} {kw : List (Str × Dat)} (h : bindAll dAmount_is_whole.ps ds kw (dAmount_is_whole.dfl.map dvDat) = some vals) : (T.en (l + 2)).callK "Amount.is_whole" ds kw = callM (runFn 1 1 (BAmount_is_whole (T.en (l + 1)))) vals := callK_en (d := dAmount_is_whole) (by kernel_rfl) rfl (by kernel_rfl) rfl eBAmount_is_whole h
noncomputable def BAmount_is_number (E : En) : MS := (seqS (bndS (orV (bnd (consA (rdSlot 0) (consA (pur (.cls "Amount")) nilA)) E.isi) (bnd (consA (rdSlot 0) nilA) (E.call "is_int"))) retS)
  nextS)
theorem eBAmount_is_number : BodyIs T dAmount_is_number (fun E _ => BAmount_is_number E) := by
  intro c cl c' cl'
  kernel_rfl
theorem kBAmount_is_number (l : Nat) {ds : List Dat} (h : ds.length = 1) : (T.en (l + 2)).call "Amount.is_number" ds = callM (runFn 1 1 (BAmount_is_number (T.en (l + 1)))) ds := call_en (d := dAmount_is_number) (by kernel_rfl) rfl (by kernel_rfl) rfl rfl eBAmount_is_number h
theorem wBAmount_is_number (l : Nat) {ds vals : List Dat} {kw : List (Str × Dat)} (h : bindAll dAmount_is_number.ps ds kw (dAmount_is_number.dfl.map dvDat) = some vals) : (T.en (l + 2)).callK "Amount.is_number" ds kw = callM (runFn 1 1 (BAmount_is_number (T.en (l + 1)))) vals := callK_en (d := dAmount_is_number) (by kernel_rfl) rfl (by kernel_rfl) rfl eBAmount_is_number h
noncomputable def BAmount_of (E : En) : MS := (seqS (ifS (bnd (bnd (consA (rdSlot 0) (consA (pur (.cls "Amount")) nilA)) E.isi) E.tru) (seqS (bndS (rdSlot 0) retS)
  nextS) nextS)
  (seqS (bndS (bnd (consA (rdSlot 0) nilA) (E.make "Amount")) retS)
  nextS))
theorem eBAmount_of : BodyIs T dAmount_of (fun E _ => BAmount_of E) := by
  intro c cl c' cl'
  kernel_rfl
theorem kBAmount_of (l : Nat) {ds : List Dat} (h : ds.length = 1) : (T.en (l + 2)).call "Amount.of" ds = callM (runFn 1 1 (BAmount_of (T.en (l + 1)))) ds := call_en (d := dAmount_of) (by kernel_rfl) rfl (by kernel_rfl) rfl rfl eBAmount_of h
theorem wBAmount_of (l : Nat) {ds vals : List Dat} {kw : List (Str × Dat)} (h : bindAll dAmount_of.ps ds kw (dAmount_of.dfl.map dvDat) = some vals) : (T.en (l + 2)).callK "Amount.of" ds kw = callM (runFn 1 1 (BAmount_of (T.en (l + 1)))) vals := callK_en (d := dAmount_of) (by kernel_rfl) rfl (by kernel_rfl) rfl eBAmount_of h
noncomputable def BAmount_total (E : En) : MS := (seqS (bndS (bnd (consA (pur (.int 1)) nilA) (E.call "_wall")) fun _ => nextS)
  nextS)
theorem eBAmount_total : BodyIs T dAmount_total (fun E _ => BAmount_total E) := by
  intro c cl c' cl'
  kernel_rfl
theorem kBAmount_total (l : Nat) {ds : List Dat} (h : ds.length = 1) : (T.en (l + 2)).call "Amount.total" ds = callM (runFn 1 1 (BAmount_total (T.en (l + 1)))) ds := call_en (d := dAmount_total) (by kernel_rfl) rfl (by kernel_rfl) rfl rfl eBAmount_total h
theorem wBAmount_total (l : Nat) {ds vals : List Dat} {kw : List (Str × Dat)} (h : bindAll dAmount_total.ps ds kw (dAmount_total.dfl.map dvDat) = some vals) : (T.en (l + 2)).callK "Amount.total" ds kw = callM (runFn 1 1 (BAmount_total (T.en (l + 1)))) vals := callK_en (d := dAmount_total) (by kernel_rfl) rfl (by kernel_rfl) rfl eBAmount_total h
noncomputable def BAmount_read_e0 (E : En) : M Dat := (bnd (consA (rdSlot 4) nilA) (E.call "integer_in"))
noncomputable def BAmount_read (E : En) : MS := (seqS (bndS (ifM (bnd (bnd (consA (rdSlot 1) (consA (pur (.ty "str")) nilA)) E.isi) E.tru) (bnd (rdSlot 1) (E.mth "split" (consA (pur (.str "/")) nilA))) (lstM nilA)) (asgS 2))
  (seqS (bndS (lcM [4] (bnd (rdSlot 2) itemsM) (asgS 4) (pur true) (BAmount_read_e0 E)) (asgS 3))
  (seqS (ifS (andT (bnd (b1 rLen (pkSlot 3)) fun x12 => bnd (pur (.int 1)) fun x13 => bnd (E.cmp .Eq x12 x13) E.tru) (bnd (ixS 3 (pur (.int 0))) fun x10 => bnd (pur .non) fun x11 => bnd (E.cmp .IsNot x10 x11) E.tru)) (seqS (bndS (bnd (rdSlot 0) (E.callC (consA (ixS 3 (pur (.int 0))) nilA))) retS)
  nextS) nextS)
  (seqS (ifS (andT (bnd (b1 rLen (pkSlot 3)) fun x5 => bnd (pur (.int 2)) fun x6 => bnd (E.cmp .Eq x5 x6) E.tru) (andT (bnd (pur .non) fun x3 => bnd (pkSlot 3) fun x4 => bnd (inn true x3 x4) E.tru) (bnd (ixS 3 (pur (.int 1))) fun x1 => bnd (pur (.int 1)) fun x2 => bnd (E.cmp .Gt x1 x2) E.tru))) (seqS (bndS (bnd (rdSlot 0) (E.callC (consA (ixS 3 (pur (.int 0))) (consA (ixS 3 (pur (.int 1))) nilA)))) (asgS 5))
  (seqS (ifS (bnd (bnd (rdSlot 5) fun x9 => E.getX x9 "bottom") fun x7 => bnd (ixS 3 (pur (.int 1))) fun x8 => bnd (E.cmp .Eq x7 x8) E.tru) (seqS (bndS (rdSlot 5) retS)
  nextS) nextS)
  nextS)) nextS)
  (seqS (bndS (consA (pur (.int 0)) (consA (pur (.int 0)) nilA)) (E.raiseS "BadText"))
  nextS)))))
theorem eBAmount_read : BodyIs T dAmount_read (fun E _ => BAmount_read E) := by
  intro c cl c' cl'
  kernel_rfl
theorem kBAmount_read (l : Nat) {ds : List Dat} (h : ds.length = 2) : (T.en (l + 2)).call "Amount.read" ds = callM (runFn 2 6 (BAmount_read (T.en (l + 1)))) ds := call_en (d := dAmount_read) (by kernel_rfl) rfl (by kernel_rfl) rfl rfl eBAmount_read h
theorem wBAmount_read (l : Nat) {ds vals : List Dat} {kw : List (Str × Dat)} (h : bindAll dAmount_read.ps ds kw (dAmount_read.dfl.map dvDat) = some vals) : (T.en (l + 2)).callK "Amount.read" ds kw = callM (runFn 2 6 (BAmount_read (T.en (l + 1)))) vals := callK_en (d := dAmount_read) (by kernel_rfl) rfl (by kernel_rfl) rfl eBAmount_read h
noncomputable def BAmount_over (E : En) : MS := (seqS (bndS (bnd (consA (pur (.int 2)) nilA) (E.call "_wall")) fun _ => nextS)
  nextS)
theorem eBAmount_over : BodyIs T dAmount_over (fun E _ => BAmount_over E) := by
  intro c cl c' cl'
  kernel_rfl
theorem kBAmount_over (l : Nat) {ds : List Dat} (h : ds.length = 2) : (T.en (l + 2)).call "Amount.over" ds = callM (runFn 2 2 (BAmount_over (T.en (l + 1)))) ds := call_en (d := dAmount_over) (by kernel_rfl) rfl (by kernel_rfl) rfl rfl eBAmount_over h
theorem wBAmount_over (l : Nat) {ds vals : List Dat} {kw : List (Str × Dat)} (h : bindAll dAmount_over.ps ds kw (dAmount_over.dfl.map dvDat) = some vals) : (T.en (l + 2)).callK "Amount.over" ds kw = callM (runFn 2 2 (BAmount_over (T.en (l + 1)))) vals := callK_en (d := dAmount_over) (by kernel_rfl) rfl (by kernel_rfl) rfl eBAmount_over h
noncomputable def BAmount___add__ (E : En) : MS := (seqS (ifS (notT (bnd (bnd (pur (.cls "Amount")) (E.mth "is_number" (consA (rdSlot 1) nilA))) E.tru)) (seqS (bndS fail retS)
  nextS) nextS)
  (seqS (bndS (bnd (consA (rdSlot 1) nilA) (E.call "parts_of")) (unpG 2 (consG (asgS 2) (consG (asgS 3) nilG))))
  (seqS (bndS (bnd (consA (bnd (bnd (bnd (rdSlot 0) fun x8 => E.getX x8 "top") fun x6 => bnd (rdSlot 3) fun x7 => E.bin .Mult x6 x7) fun x4 => bnd (bnd (rdSlot 2) fun x9 => bnd (bnd (rdSlot 0) fun x11 => E.getX x11 "bottom") fun x10 => E.bin .Mult x9 x10) fun x5 => E.bin .Add x4 x5) (consA (bnd (bnd (rdSlot 0) fun x3 => E.getX x3 "bottom") fun x1 => bnd (rdSlot 3) fun x2 => E.bin .Mult x1 x2) nilA)) (E.make "Amount")) retS)
  nextS)))
theorem eBAmount___add__ : BodyIs T dAmount___add__ (fun E _ => BAmount___add__ E) := by
  intro c cl c' cl'
  kernel_rfl
theorem kBAmount___add__ (l : Nat) {ds : List Dat} (h : ds.length = 2) : (T.en (l + 2)).call "Amount.__add__" ds = callM (runFn 2 4 (BAmount___add__ (T.en (l + 1)))) ds := call_en (d := dAmount___add__) (by kernel_rfl) rfl (by kernel_rfl) rfl rfl eBAmount___add__ h
theorem wBAmount___add__ (l : Nat) {ds vals : List Dat} {kw : List (Str × Dat)} (h : bindAll dAmount___add__.ps ds kw (dAmount___add__.dfl.map dvDat) = some vals) : (T.en (l + 2)).callK "Amount.__add__" ds kw = callM (runFn 2 4 (BAmount___add__ (T.en (l + 1)))) vals := callK_en (d := dAmount___add__) (by kernel_rfl) rfl (by kernel_rfl) rfl eBAmount___add__ h
noncomputable def BAmount___radd__ (E : En) : MS := (seqS (bndS (bnd (rdSlot 0) fun x1 => bnd (rdSlot 1) fun x2 => E.bin .Add x1 x2) retS)
  nextS)
theorem eBAmount___radd__ : BodyIs T dAmount___radd__ (fun E _ => BAmount___radd__ E) := by
  intro c cl c' cl'
  kernel_rfl
theorem kBAmount___radd__ (l : Nat) {ds : List Dat} (h : ds.length = 2) : (T.en (l + 2)).call "Amount.__radd__" ds = callM (runFn 2 2 (BAmount___radd__ (T.en (l + 1)))) ds := call_en (d := dAmount___radd__) (by kernel_rfl) rfl (by kernel_rfl) rfl rfl eBAmount___radd__ h
theorem wBAmount___radd__ (l : Nat) {ds vals : List Dat} {kw : List (Str × Dat)} (h : bindAll dAmount___radd__.ps ds kw (dAmount___radd__.dfl.map dvDat) = some vals) : (T.en (l + 2)).callK "Amount.__radd__" ds kw = callM (runFn 2 2 (BAmount___radd__ (T.en (l + 1)))) vals := callK_en (d := dAmount___radd__) (by kernel_rfl) rfl (by kernel_rfl) rfl eBAmount___radd__ h
noncomputable def BAmount___sub__ (E : En) : MS := (seqS (ifS (notT (bnd (bnd (pur (.cls "Amount")) (E.mth "is_number" (consA (rdSlot 1) nilA))) E.tru)) (seqS (bndS fail retS)
  nextS) nextS)
  (seqS (bndS (bnd (consA (rdSlot 1) nilA) (E.call "parts_of")) (unpG 2 (consG (asgS 2) (consG (asgS 3) nilG))))
  (seqS (bndS (bnd (consA (bnd (bnd (bnd (rdSlot 0) fun x8 => E.getX x8 "top") fun x6 => bnd (rdSlot 3) fun x7 => E.bin .Mult x6 x7) fun x4 => bnd (bnd (rdSlot 2) fun x9 => bnd (bnd (rdSlot 0) fun x11 => E.getX x11 "bottom") fun x10 => E.bin .Mult x9 x10) fun x5 => E.bin .Sub x4 x5) (consA (bnd (bnd (rdSlot 0) fun x3 => E.getX x3 "bottom") fun x1 => bnd (rdSlot 3) fun x2 => E.bin .Mult x1 x2) nilA)) (E.make "Amount")) retS)
  nextS)))
theorem eBAmount___sub__ : BodyIs T dAmount___sub__ (fun E _ => BAmount___sub__ E) := by
  intro c cl c' cl'
  kernel_rfl
theorem kBAmount___sub__ (l : Nat) {ds : List Dat} (h : ds.length = 2) : (T.en (l + 2)).call "Amount.__sub__" ds = callM (runFn 2 4 (BAmount___sub__ (T.en (l + 1)))) ds := call_en (d := dAmount___sub__) (by kernel_rfl) rfl (by kernel_rfl) rfl rfl eBAmount___sub__ h
theorem wBAmount___sub__ (l : Nat) {ds vals : List Dat} {kw : List (Str × Dat)} (h : bindAll dAmount___sub__.ps ds kw (dAmount___sub__.dfl.map dvDat) = some vals) : (T.en (l + 2)).callK "Amount.__sub__" ds kw = callM (runFn 2 4 (BAmount___sub__ (T.en (l + 1)))) vals := callK_en (d := dAmount___sub__) (by kernel_rfl) rfl (by kernel_rfl) rfl eBAmount___sub__ h
noncomputable def BAmount___rsub__ (E : En) : MS := (seqS (bndS (bnd (bnd (pur (.cls "Amount")) (E.mth "of" (consA (rdSlot 1) nilA))) fun x1 => bnd (rdSlot 0) fun x2 => E.bin .Sub x1 x2) retS)
  nextS)
theorem eBAmount___rsub__ : BodyIs T dAmount___rsub__ (fun E _ => BAmount___rsub__ E) := by
  intro c cl c' cl'
  kernel_rfl
theorem kBAmount___rsub__ (l : Nat) {ds : List Dat} (h : ds.length = 2) : (T.en (l + 2)).call "Amount.__rsub__" ds = callM (runFn 2 2 (BAmount___rsub__ (T.en (l + 1)))) ds := call_en (d := dAmount___rsub__) (by kernel_rfl) rfl (by kernel_rfl) rfl rfl eBAmount___rsub__ h
theorem wBAmount___rsub__ (l : Nat) {ds vals : List Dat} {kw : List (Str × Dat)} (h : bindAll dAmount___rsub__.ps ds kw (dAmount___rsub__.dfl.map dvDat) = some vals) : (T.en (l + 2)).callK "Amount.__rsub__" ds kw = callM (runFn 2 2 (BAmount___rsub__ (T.en (l + 1)))) vals := callK_en (d := dAmount___rsub__) (by kernel_rfl) rfl (by kernel_rfl) rfl eBAmount___rsub__ h
noncomputable def BAmount___mul__ (E : En) : MS := (seqS (ifS (notT (bnd (bnd (pur (.cls "Amount")) (E.mth "is_number" (consA (rdSlot 1) nilA))) E.tru)) (seqS (bndS fail retS)
  nextS) nextS)
  (seqS (bndS (bnd (consA (rdSlot 1) nilA) (E.call "parts_of")) (unpG 2 (consG (asgS 2) (consG (asgS 3) nilG))))
  (seqS (bndS (bnd (consA (bnd (bnd (rdSlot 0) fun x6 => E.getX x6 "top") fun x4 => bnd (rdSlot 2) fun x5 => E.bin .Mult x4 x5) (consA (bnd (bnd (rdSlot 0) fun x3 => E.getX x3 "bottom") fun x1 => bnd (rdSlot 3) fun x2 => E.bin .Mult x1 x2) nilA)) (E.make "Amount")) retS)
  nextS)))
theorem eBAmount___mul__ : BodyIs T dAmount___mul__ (fun E _ => BAmount___mul__ E) := by
  intro c cl c' cl'
  kernel_rfl
theorem kBAmount___mul__ (l : Nat) {ds : List Dat} (h : ds.length = 2) : (T.en (l + 2)).call "Amount.__mul__" ds = callM (runFn 2 4 (BAmount___mul__ (T.en (l + 1)))) ds := call_en (d := dAmount___mul__) (by kernel_rfl) rfl (by kernel_rfl) rfl rfl eBAmount___mul__ h
theorem wBAmount___mul__ (l : Nat) {ds vals : List Dat} {kw : List (Str × Dat)} (h : bindAll dAmount___mul__.ps ds kw (dAmount___mul__.dfl.map dvDat) = some vals) : (T.en (l + 2)).callK "Amount.__mul__" ds kw = callM (runFn 2 4 (BAmount___mul__ (T.en (l + 1)))) vals := callK_en (d := dAmount___mul__) (by kernel_rfl) rfl (by kernel_rfl) rfl eBAmount___mul__ h
noncomputable def BAmount___rmul__ (E : En) : MS := (seqS (bndS (bnd (rdSlot 0) fun x1 => bnd (rdSlot 1) fun x2 => E.bin .Mult x1 x2) retS)
  nextS)
theorem eBAmount___rmul__ : BodyIs T dAmount___rmul__ (fun E _ => BAmount___rmul__ E) := by
  intro c cl c' cl'
  kernel_rfl
theorem kBAmount___rmul__ (l : Nat) {ds : List Dat} (h : ds.length = 2) : (T.en (l + 2)).call "Amount.__rmul__" ds = callM (runFn 2 2 (BAmount___rmul__ (T.en (l + 1)))) ds := call_en (d := dAmount___rmul__) (by kernel_rfl) rfl (by kernel_rfl) rfl rfl eBAmount___rmul__ h
theorem wBAmount___rmul__ (l : Nat) {ds vals : List Dat} {kw : List (Str × Dat)} (h : bindAll dAmount___rmul__.ps ds kw (dAmount___rmul__.dfl.map dvDat) = some vals) : (T.en (l + 2)).callK "Amount.__rmul__" ds kw = callM (runFn 2 2 (BAmount___rmul__ (T.en (l + 1)))) vals := callK_en (d := dAmount___rmul__) (by kernel_rfl) rfl (by kernel_rfl) rfl eBAmount___rmul__ h
noncomputable def BAmount___floordiv__ (E : En) : MS := (seqS (bndS (bnd (consA (rdSlot 1) nilA) (E.call "parts_of")) (unpG 2 (consG (asgS 2) (consG (asgS 3) nilG))))
  (seqS (ifS (bnd (rdSlot 2) fun x9 => bnd (pur (.int 0)) fun x10 => bnd (E.cmp .Eq x9 x10) E.tru) (seqS (E.raiseS "NoDivisor" [])
  nextS) nextS)
  (seqS (bndS (bnd (bnd (bnd (rdSlot 0) fun x5 => E.getX x5 "top") fun x3 => bnd (rdSlot 3) fun x4 => E.bin .Mult x3 x4) fun x1 => bnd (bnd (bnd (rdSlot 0) fun x8 => E.getX x8 "bottom") fun x6 => bnd (rdSlot 2) fun x7 => E.bin .Mult x6 x7) fun x2 => E.bin .FloorDiv x1 x2) retS)
  nextS)))
theorem eBAmount___floordiv__ : BodyIs T dAmount___floordiv__ (fun E _ => BAmount___floordiv__ E) := by
  intro c cl c' cl'
  kernel_rfl
theorem kBAmount___floordiv__ (l : Nat) {ds : List Dat} (h : ds.length = 2) : (T.en (l + 2)).call "Amount.__floordiv__" ds = callM (runFn 2 4 (BAmount___floordiv__ (T.en (l + 1)))) ds := call_en (d := dAmount___floordiv__) (by kernel_rfl) rfl (by kernel_rfl) rfl rfl eBAmount___floordiv__ h
theorem wBAmount___floordiv__ (l : Nat) {ds vals : List Dat} {kw : List (Str × Dat)} (h : bindAll dAmount___floordiv__.ps ds kw (dAmount___floordiv__.dfl.map dvDat) = some vals) : (T.en (l + 2)).callK "Amount.__floordiv__" ds kw = callM (runFn 2 4 (BAmount___floordiv__ (T.en (l + 1)))) vals := callK_en (d := dAmount___floordiv__) (by kernel_rfl) rfl (by kernel_rfl) rfl eBAmount___floordiv__ h
noncomputable def BAmount___rfloordiv__ (E : En) : MS := (seqS (bndS (bnd (bnd (pur (.cls "Amount")) (E.mth "of" (consA (rdSlot 1) nilA))) fun x1 => bnd (rdSlot 0) fun x2 => E.bin .FloorDiv x1 x2) retS)
  nextS)
theorem eBAmount___rfloordiv__ : BodyIs T dAmount___rfloordiv__ (fun E _ => BAmount___rfloordiv__ E) := by
  intro c cl c' cl'
  kernel_rfl
theorem kBAmount___rfloordiv__ (l : Nat) {ds : List Dat} (h : ds.length = 2) : (T.en (l + 2)).call "Amount.__rfloordiv__" ds = callM (runFn 2 2 (BAmount___rfloordiv__ (T.en (l + 1)))) ds := call_en (d := dAmount___rfloordiv__) (by kernel_rfl) rfl (by kernel_rfl) rfl rfl eBAmount___rfloordiv__ h
theorem wBAmount___rfloordiv__ (l : Nat) {ds vals : List Dat} {kw : List (Str × Dat)} (h : bindAll dAmount___rfloordiv__.ps ds kw (dAmount___rfloordiv__.dfl.map dvDat) = some vals) : (T.en (l + 2)).callK "Amount.__rfloordiv__" ds kw = callM (runFn 2 2 (BAmount___rfloordiv__ (T.en (l + 1)))) vals := callK_en (d := dAmount___rfloordiv__) (by kernel_rfl) rfl (by kernel_rfl) rfl eBAmount___rfloordiv__ h
noncomputable def BAmount___mod__ (E : En) : MS := (seqS (bndS (bnd (rdSlot 0) fun x5 => bnd (rdSlot 1) fun x6 => E.bin .FloorDiv x5 x6) (asgS 2))
  (seqS (bndS (bnd (rdSlot 0) fun x1 => bnd (bnd (bnd (pur (.cls "Amount")) (E.mth "of" (consA (rdSlot 1) nilA))) fun x3 => bnd (rdSlot 2) fun x4 => E.bin .Mult x3 x4) fun x2 => E.bin .Sub x1 x2) retS)
  nextS))
theorem eBAmount___mod__ : BodyIs T dAmount___mod__ (fun E _ => BAmount___mod__ E) := by
  intro c cl c' cl'
  kernel_rfl
theorem kBAmount___mod__ (l : Nat) {ds : List Dat} (h : ds.length = 2) : (T.en (l + 2)).call "Amount.__mod__" ds = callM (runFn 2 3 (BAmount___mod__ (T.en (l + 1)))) ds := call_en (d := dAmount___mod__) (by kernel_rfl) rfl (by kernel_rfl) rfl rfl eBAmount___mod__ h
theorem wBAmount___mod__ (l : Nat) {ds vals : List Dat} {kw : List (Str × Dat)} (h : bindAll dAmount___mod__.ps ds kw (dAmount___mod__.dfl.map dvDat) = some vals) : (T.en (l + 2)).callK "Amount.__mod__" ds kw = callM (runFn 2 3 (BAmount___mod__ (T.en (l + 1)))) vals := callK_en (d := dAmount___mod__) (by kernel_rfl) rfl (by kernel_rfl) rfl eBAmount___mod__ h
noncomputable def BAmount___rmod__ (E : En) : MS := (seqS (bndS (bnd (bnd (pur (.cls "Amount")) (E.mth "of" (consA (rdSlot 1) nilA))) fun x1 => bnd (rdSlot 0) fun x2 => E.bin .Mod x1 x2) retS)
  nextS)
theorem eBAmount___rmod__ : BodyIs T dAmount___rmod__ (fun E _ => BAmount___rmod__ E) := by
  intro c cl c' cl'
  kernel_rfl
theorem kBAmount___rmod__ (l : Nat) {ds : List Dat} (h : ds.length = 2) : (T.en (l + 2)).call "Amount.__rmod__" ds = callM (runFn 2 2 (BAmount___rmod__ (T.en (l + 1)))) ds := call_en (d := dAmount___rmod__) (by kernel_rfl) rfl (by kernel_rfl) rfl rfl eBAmount___rmod__ h
theorem wBAmount___rmod__ (l : Nat) {ds vals : List Dat} {kw : List (Str × Dat)} (h : bindAll dAmount___rmod__.ps ds kw (dAmount___rmod__.dfl.map dvDat) = some vals) : (T.en (l + 2)).callK "Amount.__rmod__" ds kw = callM (runFn 2 2 (BAmount___rmod__ (T.en (l + 1)))) vals := callK_en (d := dAmount___rmod__) (by kernel_rfl) rfl (by kernel_rfl) rfl eBAmount___rmod__ h
noncomputable def BAmount___neg__ (E : En) : MS := (seqS (bndS (bnd (consA (bnd (bnd (rdSlot 0) fun x3 => E.getX x3 "top") fun x2 => E.una .USub x2) (consA (bnd (rdSlot 0) fun x1 => E.getX x1 "bottom") nilA)) (E.make "Amount")) retS)
  nextS)
theorem eBAmount___neg__ : BodyIs T dAmount___neg__ (fun E _ => BAmount___neg__ E) := by
  intro c cl c' cl'
  kernel_rfl
theorem kBAmount___neg__ (l : Nat) {ds : List Dat} (h : ds.length = 1) : (T.en (l + 2)).call "Amount.__neg__" ds = callM (runFn 1 1 (BAmount___neg__ (T.en (l + 1)))) ds := call_en (d := dAmount___neg__) (by kernel_rfl) rfl (by kernel_rfl) rfl rfl eBAmount___neg__ h
theorem wBAmount___neg__ (l : Nat) {ds vals : List Dat} {kw : List (Str × Dat)} (h : bindAll dAmount___neg__.ps ds kw (dAmount___neg__.dfl.map dvDat) = some vals) : (T.en (l + 2)).callK "Amount.__neg__" ds kw = callM (runFn 1 1 (BAmount___neg__ (T.en (l + 1)))) vals := callK_en (d := dAmount___neg__) (by kernel_rfl) rfl (by kernel_rfl) rfl eBAmount___neg__ h
noncomputable def BAmount___abs__ (E : En) : MS := (seqS (bndS (bnd (consA (bA (orR rAbsI (E.rUna "__abs__")) (consA (bnd (rdSlot 0) fun x2 => E.getX x2 "top") nilA)) (consA (bnd (rdSlot 0) fun x1 => E.getX x1 "bottom") nilA)) (E.make "Amount")) retS)
  nextS)
theorem eBAmount___abs__ : BodyIs T dAmount___abs__ (fun E _ => BAmount___abs__ E) := by
  intro c cl c' cl'
  kernel_rfl
theorem kBAmount___abs__ (l : Nat) {ds : List Dat} (h : ds.length = 1) : (T.en (l + 2)).call "Amount.__abs__" ds = callM (runFn 1 1 (BAmount___abs__ (T.en (l + 1)))) ds := call_en (d := dAmount___abs__) (by kernel_rfl) rfl (by kernel_rfl) rfl rfl eBAmount___abs__ h
theorem wBAmount___abs__ (l : Nat) {ds vals : List Dat} {kw : List (Str × Dat)} (h : bindAll dAmount___abs__.ps ds kw (dAmount___abs__.dfl.map dvDat) = some vals) : (T.en (l + 2)).callK "Amount.__abs__" ds kw = callM (runFn 1 1 (BAmount___abs__ (T.en (l + 1)))) vals := callK_en (d := dAmount___abs__) (by kernel_rfl) rfl (by kernel_rfl) rfl eBAmount___abs__ h
noncomputable def BAmount___lt__ (E : En) : MS := (seqS (bndS (bnd (consA (rdSlot 1) nilA) (E.call "parts_of")) (unpG 2 (consG (asgS 2) (consG (asgS 3) nilG))))
  (seqS (bndS (bnd (bnd (bnd (rdSlot 0) fun x5 => E.getX x5 "top") fun x3 => bnd (rdSlot 3) fun x4 => E.bin .Mult x3 x4) fun x1 => bnd (bnd (rdSlot 2) fun x6 => bnd (bnd (rdSlot 0) fun x8 => E.getX x8 "bottom") fun x7 => E.bin .Mult x6 x7) fun x2 => E.cmp .Lt x1 x2) retS)
  nextS))
theorem eBAmount___lt__ : BodyIs T dAmount___lt__ (fun E _ => BAmount___lt__ E) := by
  intro c cl c' cl'
  kernel_rfl
theorem kBAmount___lt__ (l : Nat) {ds : List Dat} (h : ds.length = 2) : (T.en (l + 2)).call "Amount.__lt__" ds = callM (runFn 2 4 (BAmount___lt__ (T.en (l + 1)))) ds := call_en (d := dAmount___lt__) (by kernel_rfl) rfl (by kernel_rfl) rfl rfl eBAmount___lt__ h
theorem wBAmount___lt__ (l : Nat) {ds vals : List Dat} {kw : List (Str × Dat)} (h : bindAll dAmount___lt__.ps ds kw (dAmount___lt__.dfl.map dvDat) = some vals) : (T.en (l + 2)).callK "Amount.__lt__" ds kw = callM (runFn 2 4 (BAmount___lt__ (T.en (l + 1)))) vals := callK_en (d := dAmount___lt__) (by kernel_rfl) rfl (by kernel_rfl) rfl eBAmount___lt__ h
noncomputable def BAmount___le__ (E : En) : MS := (seqS (bndS (bnd (consA (rdSlot 1) nilA) (E.call "parts_of")) (unpG 2 (consG (asgS 2) (consG (asgS 3) nilG))))
  (seqS (bndS (bnd (bnd (bnd (rdSlot 0) fun x5 => E.getX x5 "top") fun x3 => bnd (rdSlot 3) fun x4 => E.bin .Mult x3 x4) fun x1 => bnd (bnd (rdSlot 2) fun x6 => bnd (bnd (rdSlot 0) fun x8 => E.getX x8 "bottom") fun x7 => E.bin .Mult x6 x7) fun x2 => E.cmp .LtE x1 x2) retS)
  nextS))
theorem eBAmount___le__ : BodyIs T dAmount___le__ (fun E _ => BAmount___le__ E) := by
  intro c cl c' cl'
  kernel_rfl
theorem kBAmount___le__ (l : Nat) {ds : List Dat} (h : ds.length = 2) : (T.en (l + 2)).call "Amount.__le__" ds = callM (runFn 2 4 (BAmount___le__ (T.en (l + 1)))) ds := call_en (d := dAmount___le__) (by kernel_rfl) rfl (by kernel_rfl) rfl rfl eBAmount___le__ h
theorem wBAmount___le__ (l : Nat) {ds vals : List Dat} {kw : List (Str × Dat)} (h : bindAll dAmount___le__.ps ds kw (dAmount___le__.dfl.map dvDat) = some vals) : (T.en (l + 2)).callK "Amount.__le__" ds kw = callM (runFn 2 4 (BAmount___le__ (T.en (l + 1)))) vals := callK_en (d := dAmount___le__) (by kernel_rfl) rfl (by kernel_rfl) rfl eBAmount___le__ h
noncomputable def BAmount___gt__ (E : En) : MS := (seqS (bndS (bnd (consA (rdSlot 1) nilA) (E.call "parts_of")) (unpG 2 (consG (asgS 2) (consG (asgS 3) nilG))))
  (seqS (bndS (bnd (bnd (bnd (rdSlot 0) fun x5 => E.getX x5 "top") fun x3 => bnd (rdSlot 3) fun x4 => E.bin .Mult x3 x4) fun x1 => bnd (bnd (rdSlot 2) fun x6 => bnd (bnd (rdSlot 0) fun x8 => E.getX x8 "bottom") fun x7 => E.bin .Mult x6 x7) fun x2 => E.cmp .Gt x1 x2) retS)
  nextS))
theorem eBAmount___gt__ : BodyIs T dAmount___gt__ (fun E _ => BAmount___gt__ E) := by
  intro c cl c' cl'
  kernel_rfl
theorem kBAmount___gt__ (l : Nat) {ds : List Dat} (h : ds.length = 2) : (T.en (l + 2)).call "Amount.__gt__" ds = callM (runFn 2 4 (BAmount___gt__ (T.en (l + 1)))) ds := call_en (d := dAmount___gt__) (by kernel_rfl) rfl (by kernel_rfl) rfl rfl eBAmount___gt__ h
theorem wBAmount___gt__ (l : Nat) {ds vals : List Dat} {kw : List (Str × Dat)} (h : bindAll dAmount___gt__.ps ds kw (dAmount___gt__.dfl.map dvDat) = some vals) : (T.en (l + 2)).callK "Amount.__gt__" ds kw = callM (runFn 2 4 (BAmount___gt__ (T.en (l + 1)))) vals := callK_en (d := dAmount___gt__) (by kernel_rfl) rfl (by kernel_rfl) rfl eBAmount___gt__ h
noncomputable def BAmount___ge__ (E : En) : MS := (seqS (bndS (bnd (consA (rdSlot 1) nilA) (E.call "parts_of")) (unpG 2 (consG (asgS 2) (consG (asgS 3) nilG))))
  (seqS (bndS (bnd (bnd (bnd (rdSlot 0) fun x5 => E.getX x5 "top") fun x3 => bnd (rdSlot 3) fun x4 => E.bin .Mult x3 x4) fun x1 => bnd (bnd (rdSlot 2) fun x6 => bnd (bnd (rdSlot 0) fun x8 => E.getX x8 "bottom") fun x7 => E.bin .Mult x6 x7) fun x2 => E.cmp .GtE x1 x2) retS)
  nextS))
theorem eBAmount___ge__ : BodyIs T dAmount___ge__ (fun E _ => BAmount___ge__ E) := by
  intro c cl c' cl'
  kernel_rfl
theorem kBAmount___ge__ (l : Nat) {ds : List Dat} (h : ds.length = 2) : (T.en (l + 2)).call "Amount.__ge__" ds = callM (runFn 2 4 (BAmount___ge__ (T.en (l + 1)))) ds := call_en (d := dAmount___ge__) (by kernel_rfl) rfl (by kernel_rfl) rfl rfl eBAmount___ge__ h
theorem wBAmount___ge__ (l : Nat) {ds vals : List Dat} {kw : List (Str × Dat)} (h : bindAll dAmount___ge__.ps ds kw (dAmount___ge__.dfl.map dvDat) = some vals) : (T.en (l + 2)).callK "Amount.__ge__" ds kw = callM (runFn 2 4 (BAmount___ge__ (T.en (l + 1)))) vals := callK_en (d := dAmount___ge__) (by kernel_rfl) rfl (by kernel_rfl) rfl eBAmount___ge__ h
noncomputable def BAmount___eq__ (E : En) : MS := (seqS (ifS (notT (bnd (bnd (pur (.cls "Amount")) (E.mth "is_number" (consA (rdSlot 1) nilA))) E.tru)) (seqS (bndS (pur (.bl false)) retS)
  nextS) nextS)
  (seqS (bndS (bnd (tupM (consA (bnd (rdSlot 0) fun x4 => E.getX x4 "top") (consA (bnd (rdSlot 0) fun x3 => E.getX x3 "bottom") nilA))) fun x1 => bnd (bnd (consA (rdSlot 1) nilA) (E.call "parts_of")) fun x2 => E.cmp .Eq x1 x2) retS)
  nextS))
theorem eBAmount___eq__ : BodyIs T dAmount___eq__ (fun E _ => BAmount___eq__ E) := by
  intro c cl c' cl'
  kernel_rfl
theorem kBAmount___eq__ (l : Nat) {ds : List Dat} (h : ds.length = 2) : (T.en (l + 2)).call "Amount.__eq__" ds = callM (runFn 2 2 (BAmount___eq__ (T.en (l + 1)))) ds := call_en (d := dAmount___eq__) (by kernel_rfl) rfl (by kernel_rfl) rfl rfl eBAmount___eq__ h
theorem wBAmount___eq__ (l : Nat) {ds vals : List Dat} {kw : List (Str × Dat)} (h : bindAll dAmount___eq__.ps ds kw (dAmount___eq__.dfl.map dvDat) = some vals) : (T.en (l + 2)).callK "Amount.__eq__" ds kw = callM (runFn 2 2 (BAmount___eq__ (T.en (l + 1)))) vals := callK_en (d := dAmount___eq__) (by kernel_rfl) rfl (by kernel_rfl) rfl eBAmount___eq__ h
noncomputable def BAmount___bool__ (E : En) : MS := (seqS (bndS (bA E.rBool (consA (bnd (bnd (rdSlot 0) fun x3 => E.getX x3 "top") fun x1 => bnd (pur (.int 0)) fun x2 => E.cmp .NotEq x1 x2) nilA)) retS)
  nextS)
theorem eBAmount___bool__ : BodyIs T dAmount___bool__ (fun E _ => BAmount___bool__ E) := by
  intro c cl c' cl'
  kernel_rfl
theorem kBAmount___bool__ (l : Nat) {ds : List Dat} (h : ds.length = 1) : (T.en (l + 2)).call "Amount.__bool__" ds = callM (runFn 1 1 (BAmount___bool__ (T.en (l + 1)))) ds := call_en (d := dAmount___bool__) (by kernel_rfl) rfl (by kernel_rfl) rfl rfl eBAmount___bool__ h
theorem wBAmount___bool__ (l : Nat) {ds vals : List Dat} {kw : List (Str × Dat)} (h : bindAll dAmount___bool__.ps ds kw (dAmount___bool__.dfl.map dvDat) = some vals) : (T.en (l + 2)).callK "Amount.__bool__" ds kw = callM (runFn 1 1 (BAmount___bool__ (T.en (l + 1)))) vals := callK_en (d := dAmount___bool__) (by kernel_rfl) rfl (by kernel_rfl) rfl eBAmount___bool__ h
noncomputable def BAmount___str__ (E : En) : MS := (seqS (ifS (bnd (bnd (rdSlot 0) fun x5 => E.getX x5 "bottom") fun x3 => bnd (pur (.int 1)) fun x4 => bnd (E.cmp .Eq x3 x4) E.tru) (seqS (bndS (bA (orR rStrI E.rStrO) (consA (bnd (rdSlot 0) fun x6 => E.getX x6 "top") nilA)) retS)
  nextS) nextS)
  (seqS (bndS (joinM [(bnd (bnd (rdSlot 0) fun x1 => E.getX x1 "top") (E.fmt (-1))), (pur (.str "/")), (bnd (bnd (rdSlot 0) fun x2 => E.getX x2 "bottom") (E.fmt (-1)))] Str.empty) retS)
  nextS))
theorem eBAmount___str__ : BodyIs T dAmount___str__ (fun E _ => BAmount___str__ E) := by
  intro c cl c' cl'
  kernel_rfl
theorem kBAmount___str__ (l : Nat) {ds : List Dat} (h : ds.length = 1) : (T.en (l + 2)).call "Amount.__str__" ds = callM (runFn 1 1 (BAmount___str__ (T.en (l + 1)))) ds := call_en (d := dAmount___str__) (by kernel_rfl) rfl (by kernel_rfl) rfl rfl eBAmount___str__ h
theorem wBAmount___str__ (l : Nat) {ds vals : List Dat} {kw : List (Str × Dat)} (h : bindAll dAmount___str__.ps ds kw (dAmount___str__.dfl.map dvDat) = some vals) : (T.en (l + 2)).callK "Amount.__str__" ds kw = callM (runFn 1 1 (BAmount___str__ (T.en (l + 1)))) vals := callK_en (d := dAmount___str__) (by kernel_rfl) rfl (by kernel_rfl) rfl eBAmount___str__ h
noncomputable def BAmount___repr__ (E : En) : MS := (seqS (bndS (joinM [(pur (.str "Amount(")), (bnd (rdSlot 0) (E.fmt 115)), (pur (.str ")"))] Str.empty) retS)
  nextS)
theorem eBAmount___repr__ : BodyIs T dAmount___repr__ (fun E _ => BAmount___repr__ E) := by
  intro c cl c' cl'
  kernel_rfl
theorem kBAmount___repr__ (l : Nat) {ds : List Dat} (h : ds.length = 1) : (T.en (l + 2)).call "Amount.__repr__" ds = callM (runFn 1 1 (BAmount___repr__ (T.en (l + 1)))) ds := call_en (d := dAmount___repr__) (by kernel_rfl) rfl (by kernel_rfl) rfl rfl eBAmount___repr__ h
theorem wBAmount___repr__ (l : Nat) {ds vals : List Dat} {kw : List (Str × Dat)} (h : bindAll dAmount___repr__.ps ds kw (dAmount___repr__.dfl.map dvDat) = some vals) : (T.en (l + 2)).callK "Amount.__repr__" ds kw = callM (runFn 1 1 (BAmount___repr__ (T.en (l + 1)))) vals := callK_en (d := dAmount___repr__) (by kernel_rfl) rfl (by kernel_rfl) rfl eBAmount___repr__ h
noncomputable def Bis_size (E : En) : MS := (seqS (bndS (andV (bnd (pur (.cls "Amount")) (E.mth "is_number" (consA (rdSlot 0) nilA))) (bnd (bnd (rdSlot 0) fun x2 => bnd (pur (.int 0)) fun x3 => E.cmp .Lt x2 x3) E.notV)) retS)
  nextS)
theorem eBis_size : BodyIs T dis_size (fun E _ => Bis_size E) := by
  intro c cl c' cl'
  kernel_rfl
theorem kBis_size (l : Nat) {ds : List Dat} (h : ds.length = 1) : (T.en (l + 2)).call "is_size" ds = callM (runFn 1 1 (Bis_size (T.en (l + 1)))) ds := call_en (d := dis_size) (by kernel_rfl) rfl (by kernel_rfl) rfl rfl eBis_size h
theorem wBis_size (l : Nat) {ds vals : List Dat} {kw : List (Str × Dat)} (h : bindAll dis_size.ps ds kw (dis_size.dfl.map dvDat) = some vals) : (T.en (l + 2)).callK "is_size" ds kw = callM (runFn 1 1 (Bis_size (T.en (l + 1)))) vals := callK_en (d := dis_size) (by kernel_rfl) rfl (by kernel_rfl) rfl eBis_size h
noncomputable def Bsize_in_t0 (E : En) : MS := (seqS (bndS (bnd (pur (.cls "Amount")) (E.mth "read" (consA (rdSlot 0) nilA))) (asgS 1))
  nextS)
noncomputable def Bsize_in (E : En) : MS := (seqS (tryS none (E.catches "BadText") (Bsize_in_t0 E) (seqS (bndS (pur .non) retS) nextS))
  (seqS (bndS (ifM (bnd (rdSlot 1) fun x1 => bnd (pur (.int 0)) fun x2 => bnd (E.cmp .Lt x1 x2) E.tru) (pur .non) (rdSlot 1)) retS)
  nextS))
theorem eBsize_in : BodyIs T dsize_in (fun E _ => Bsize_in E) := by
  intro c cl c' cl'
  kernel_rfl
theorem kBsize_in (l : Nat) {ds : List Dat} (h : ds.length = 1) : (T.en (l + 2)).call "size_in" ds = callM (runFn 1 2 (Bsize_in (T.en (l + 1)))) ds := call_en (d := dsize_in) (by kernel_rfl) rfl (by kernel_rfl) rfl rfl eBsize_in h
theorem wBsize_in (l : Nat) {ds vals : List Dat} {kw : List (Str × Dat)} (h : bindAll dsize_in.ps ds kw (dsize_in.dfl.map dvDat) = some vals) : (T.en (l + 2)).callK "size_in" ds kw = callM (runFn 1 2 (Bsize_in (T.en (l + 1)))) vals := callK_en (d := dsize_in) (by kernel_rfl) rfl (by kernel_rfl) rfl eBsize_in h
noncomputable def BZero___init__ (E : En) : MS := (seqS (bndS (bnd (consA (pur (.int 0)) nilA) (E.make "Amount")) fun d1 => E.fldS 0 "pace" d1)
  nextS)
theorem eBZero___init__ : BodyIs T dZero___init__ (fun E _ => BZero___init__ E) := by
  intro c cl c' cl'
  kernel_rfl
theorem kBZero___init__ (l : Nat) {ds : List Dat} (h1 : 1 ≤ ds.length + 1) (h2 : ds.length + 1 ≤ 1) : (T.en (l + 2)).make "Zero" ds = callM (runIn 1 1 (BZero___init__ (T.en (l + 1)))) (Dat.ins "Zero" [] :: (ds ++ (dZero___init__.dfl.map dvDat).drop (ds.length + 1 + dZero___init__.dfl.length - 1))) := make_en (q := "Zero.__init__") (by kernel_rfl) (by kernel_rfl) rfl (by kernel_rfl) rfl eBZero___init__ h1 h2
theorem iBZero___init__ (l : Nat) : (T.en (l + 2)).ini "Zero" = some ⟨runIn 1 1 (BZero___init__ (T.en (l + 1))), 1, dZero___init__.dfl.map dvDat, adP dZero___init__.at_, dZero___init__.ps⟩ := ini_en (q := "Zero.__init__") (by kernel_rfl) (by kernel_rfl) rfl (by kernel_rfl) rfl eBZero___init__
theorem wBZero___init__ (l : Nat) {ds vals : List Dat} {kw : List (Str × Dat)} {rest : List (Option Dat)} (hv : bindAll dZero___init__.ps (none :: ds.map some) (kw.map fun p => (p.1, some p.2)) ((dZero___init__.dfl.map dvDat).map some) = some (none :: rest)) (hr : allSome rest = some vals) : (T.en (l + 2)).makeK "Zero" ds kw = callM (runIn 1 1 (BZero___init__ (T.en (l + 1)))) (Dat.ins "Zero" [] :: vals) := makeK_en (q := "Zero.__init__") (by kernel_rfl) (by kernel_rfl) rfl (by kernel_rfl) rfl eBZero___init__ hv hr
noncomputable def BZero_read (E : En) : MS := (seqS (bndS (ifM (bnd (bnd (consA (rdSlot 1) (consA (pur (.ty "str")) nilA)) E.isi) E.tru) (bnd (rdSlot 1) (E.mth "split" (consA (pur (.str " ")) nilA))) (lstM (consA (pur (.str "")) nilA))) (asgS 2))
  (seqS (bndS (bnd (consA (rdSlot 2) (consA (pur (.int 0)) nilA)) (E.call "zero_in")) retS)
  nextS))
theorem eBZero_read : BodyIs T dZero_read (fun E _ => BZero_read E) := by
  intro c cl c' cl'
  kernel_rfl
theorem kBZero_read (l : Nat) {ds : List Dat} (h : ds.length = 2) : (T.en (l + 2)).call "Zero.read" ds = callM (runFn 2 3 (BZero_read (T.en (l + 1)))) ds := call_en (d := dZero_read) (by kernel_rfl) rfl (by kernel_rfl) rfl rfl eBZero_read h
theorem wBZero_read (l : Nat) {ds vals : List Dat} {kw : List (Str × Dat)} (h : bindAll dZero_read.ps ds kw (dZero_read.dfl.map dvDat) = some vals) : (T.en (l + 2)).callK "Zero.read" ds kw = callM (runFn 2 3 (BZero_read (T.en (l + 1)))) vals := callK_en (d := dZero_read) (by kernel_rfl) rfl (by kernel_rfl) rfl eBZero_read h
noncomputable def BZero_is_unknown (E : En) : MS := (seqS (bndS (bnd (bnd (rdSlot 0) fun x3 => E.getX x3 "WORD") fun x1 => bnd (pur (.str "fixed")) fun x2 => E.cmp .NotEq x1 x2) retS)
  nextS)
theorem eBZero_is_unknown : BodyIs T dZero_is_unknown (fun E _ => BZero_is_unknown E) := by
  intro c cl c' cl'
  kernel_rfl
theorem kBZero_is_unknown (l : Nat) {ds : List Dat} (h : ds.length = 1) : (T.en (l + 2)).call "Zero.is_unknown" ds = callM (runFn 1 1 (BZero_is_unknown (T.en (l + 1)))) ds := call_en (d := dZero_is_unknown) (by kernel_rfl) rfl (by kernel_rfl) rfl rfl eBZero_is_unknown h
theorem wBZero_is_unknown (l : Nat) {ds vals : List Dat} {kw : List (Str × Dat)} (h : bindAll dZero_is_unknown.ps ds kw (dZero_is_unknown.dfl.map dvDat) = some vals) : (T.en (l + 2)).callK "Zero.is_unknown" ds kw = callM (runFn 1 1 (BZero_is_unknown (T.en (l + 1)))) vals := callK_en (d := dZero_is_unknown) (by kernel_rfl) rfl (by kernel_rfl) rfl eBZero_is_unknown h
noncomputable def BZero_slides (E : En) : MS := (seqS (bndS (bnd (bnd (rdSlot 0) fun x3 => E.getX x3 "WORD") fun x1 => bnd (bnd (pur (.tup [.str "sliding", .str "slidewalk"])) vw) fun x2 => inn false x1 x2) retS)
  nextS)
theorem eBZero_slides : BodyIs T dZero_slides (fun E _ => BZero_slides E) := by
  intro c cl c' cl'
  kernel_rfl
theorem kBZero_slides (l : Nat) {ds : List Dat} (h : ds.length = 1) : (T.en (l + 2)).call "Zero.slides" ds = callM (runFn 1 1 (BZero_slides (T.en (l + 1)))) ds := call_en (d := dZero_slides) (by kernel_rfl) rfl (by kernel_rfl) rfl rfl eBZero_slides h
theorem wBZero_slides (l : Nat) {ds vals : List Dat} {kw : List (Str × Dat)} (h : bindAll dZero_slides.ps ds kw (dZero_slides.dfl.map dvDat) = some vals) : (T.en (l + 2)).callK "Zero.slides" ds kw = callM (runFn 1 1 (BZero_slides (T.en (l + 1)))) vals := callK_en (d := dZero_slides) (by kernel_rfl) rfl (by kernel_rfl) rfl eBZero_slides h
noncomputable def BZero_walks (E : En) : MS := (seqS (bndS (bnd (bnd (rdSlot 0) fun x3 => E.getX x3 "WORD") fun x1 => bnd (bnd (pur (.tup [.str "walking", .str "slidewalk"])) vw) fun x2 => inn false x1 x2) retS)
  nextS)
theorem eBZero_walks : BodyIs T dZero_walks (fun E _ => BZero_walks E) := by
  intro c cl c' cl'
  kernel_rfl
theorem kBZero_walks (l : Nat) {ds : List Dat} (h : ds.length = 1) : (T.en (l + 2)).call "Zero.walks" ds = callM (runFn 1 1 (BZero_walks (T.en (l + 1)))) ds := call_en (d := dZero_walks) (by kernel_rfl) rfl (by kernel_rfl) rfl rfl eBZero_walks h
theorem wBZero_walks (l : Nat) {ds vals : List Dat} {kw : List (Str × Dat)} (h : bindAll dZero_walks.ps ds kw (dZero_walks.dfl.map dvDat) = some vals) : (T.en (l + 2)).callK "Zero.walks" ds kw = callM (runFn 1 1 (BZero_walks (T.en (l + 1)))) vals := callK_en (d := dZero_walks) (by kernel_rfl) rfl (by kernel_rfl) rfl eBZero_walks h
noncomputable def BZero_lets (E : En) : MS := (seqS (ifS (notT (bnd (bnd (rdSlot 1) fun x9 => E.getX x9 "is_unknown") E.tru)) (seqS (bndS (pur (.bl true)) retS)
  nextS) nextS)
  (seqS (ifS (orT (notT (bnd (bnd (rdSlot 0) fun x8 => E.getX x8 "is_unknown") E.tru)) (bnd (bnd (rdSlot 1) fun x6 => E.getX x6 "pace") fun x4 => bnd (bnd (rdSlot 0) fun x7 => E.getX x7 "pace") fun x5 => bnd (E.cmp .Gt x4 x5) E.tru)) (seqS (bndS (pur (.bl false)) retS)
  nextS) nextS)
  (seqS (bndS (orV (bnd (rdSlot 0) fun x3 => E.getX x3 "slides") (bnd (bnd (rdSlot 1) fun x2 => E.getX x2 "slides") E.notV)) retS)
  nextS)))
theorem eBZero_lets : BodyIs T dZero_lets (fun E _ => BZero_lets E) := by
  intro c cl c' cl'
  kernel_rfl
theorem kBZero_lets (l : Nat) {ds : List Dat} (h : ds.length = 2) : (T.en (l + 2)).call "Zero.lets" ds = callM (runFn 2 2 (BZero_lets (T.en (l + 1)))) ds := call_en (d := dZero_lets) (by kernel_rfl) rfl (by kernel_rfl) rfl rfl eBZero_lets h
theorem wBZero_lets (l : Nat) {ds vals : List Dat} {kw : List (Str × Dat)} (h : bindAll dZero_lets.ps ds kw (dZero_lets.dfl.map dvDat) = some vals) : (T.en (l + 2)).callK "Zero.lets" ds kw = callM (runFn 2 2 (BZero_lets (T.en (l + 1)))) vals := callK_en (d := dZero_lets) (by kernel_rfl) rfl (by kernel_rfl) rfl eBZero_lets h
noncomputable def BZero___le__ (E : En) : MS := (seqS (ifS (notT (bnd (bnd (consA (rdSlot 1) (consA (pur (.cls "Zero")) nilA)) E.isi) E.tru)) (seqS (bndS fail retS)
  nextS) nextS)
  (seqS (bndS (bnd (rdSlot 1) (E.mth "lets" (consA (rdSlot 0) nilA))) retS)
  nextS))
theorem eBZero___le__ : BodyIs T dZero___le__ (fun E _ => BZero___le__ E) := by
  intro c cl c' cl'
  kernel_rfl
theorem kBZero___le__ (l : Nat) {ds : List Dat} (h : ds.length = 2) : (T.en (l + 2)).call "Zero.__le__" ds = callM (runFn 2 2 (BZero___le__ (T.en (l + 1)))) ds := call_en (d := dZero___le__) (by kernel_rfl) rfl (by kernel_rfl) rfl rfl eBZero___le__ h
theorem wBZero___le__ (l : Nat) {ds vals : List Dat} {kw : List (Str × Dat)} (h : bindAll dZero___le__.ps ds kw (dZero___le__.dfl.map dvDat) = some vals) : (T.en (l + 2)).callK "Zero.__le__" ds kw = callM (runFn 2 2 (BZero___le__ (T.en (l + 1)))) vals := callK_en (d := dZero___le__) (by kernel_rfl) rfl (by kernel_rfl) rfl eBZero___le__ h
noncomputable def BZero___lt__ (E : En) : MS := (seqS (ifS (notT (bnd (bnd (consA (rdSlot 1) (consA (pur (.cls "Zero")) nilA)) E.isi) E.tru)) (seqS (bndS fail retS)
  nextS) nextS)
  (seqS (bndS (andV (bnd (rdSlot 1) (E.mth "lets" (consA (rdSlot 0) nilA))) (bnd (bnd (rdSlot 0) (E.mth "lets" (consA (rdSlot 1) nilA))) E.notV)) retS)
  nextS))
theorem eBZero___lt__ : BodyIs T dZero___lt__ (fun E _ => BZero___lt__ E) := by
  intro c cl c' cl'
  kernel_rfl
theorem kBZero___lt__ (l : Nat) {ds : List Dat} (h : ds.length = 2) : (T.en (l + 2)).call "Zero.__lt__" ds = callM (runFn 2 2 (BZero___lt__ (T.en (l + 1)))) ds := call_en (d := dZero___lt__) (by kernel_rfl) rfl (by kernel_rfl) rfl rfl eBZero___lt__ h
theorem wBZero___lt__ (l : Nat) {ds vals : List Dat} {kw : List (Str × Dat)} (h : bindAll dZero___lt__.ps ds kw (dZero___lt__.dfl.map dvDat) = some vals) : (T.en (l + 2)).callK "Zero.__lt__" ds kw = callM (runFn 2 2 (BZero___lt__ (T.en (l + 1)))) vals := callK_en (d := dZero___lt__) (by kernel_rfl) rfl (by kernel_rfl) rfl eBZero___lt__ h
noncomputable def BZero___eq__ (E : En) : MS := (seqS (bndS (andV (bnd (consA (rdSlot 1) (consA (pur (.cls "Zero")) nilA)) E.isi) (andV (bnd (bnd (rdSlot 0) fun x7 => E.getX x7 "WORD") fun x5 => bnd (bnd (rdSlot 1) fun x8 => E.getX x8 "WORD") fun x6 => E.cmp .Eq x5 x6) (bnd (bnd (rdSlot 0) fun x3 => E.getX x3 "pace") fun x1 => bnd (bnd (rdSlot 1) fun x4 => E.getX x4 "pace") fun x2 => E.cmp .Eq x1 x2))) retS)
  nextS)
theorem eBZero___eq__ : BodyIs T dZero___eq__ (fun E _ => BZero___eq__ E) := by
  intro c cl c' cl'
  kernel_rfl
theorem kBZero___eq__ (l : Nat) {ds : List Dat} (h : ds.length = 2) : (T.en (l + 2)).call "Zero.__eq__" ds = callM (runFn 2 2 (BZero___eq__ (T.en (l + 1)))) ds := call_en (d := dZero___eq__) (by kernel_rfl) rfl (by kernel_rfl) rfl rfl eBZero___eq__ h
theorem wBZero___eq__ (l : Nat) {ds vals : List Dat} {kw : List (Str × Dat)} (h : bindAll dZero___eq__.ps ds kw (dZero___eq__.dfl.map dvDat) = some vals) : (T.en (l + 2)).callK "Zero.__eq__" ds kw = callM (runFn 2 2 (BZero___eq__ (T.en (l + 1)))) vals := callK_en (d := dZero___eq__) (by kernel_rfl) rfl (by kernel_rfl) rfl eBZero___eq__ h
noncomputable def BZero___str__ (E : En) : MS := (seqS (ifS (bnd (bnd (rdSlot 0) fun x2 => E.getX x2 "walks") E.tru) (seqS (bndS (joinM [(bnd (bnd (rdSlot 0) fun x3 => E.getX x3 "WORD") (E.fmt (-1))), (pur (.str " ")), (bnd (bnd (rdSlot 0) fun x4 => E.getX x4 "pace") (E.fmt 115))] Str.empty) retS)
  nextS) nextS)
  (seqS (bndS (bA (orR rStrI E.rStrO) (consA (bnd (rdSlot 0) fun x1 => E.getX x1 "WORD") nilA)) retS)
  nextS))
theorem eBZero___str__ : BodyIs T dZero___str__ (fun E _ => BZero___str__ E) := by
  intro c cl c' cl'
  kernel_rfl
theorem kBZero___str__ (l : Nat) {ds : List Dat} (h : ds.length = 1) : (T.en (l + 2)).call "Zero.__str__" ds = callM (runFn 1 1 (BZero___str__ (T.en (l + 1)))) ds := call_en (d := dZero___str__) (by kernel_rfl) rfl (by kernel_rfl) rfl rfl eBZero___str__ h
theorem wBZero___str__ (l : Nat) {ds vals : List Dat} {kw : List (Str × Dat)} (h : bindAll dZero___str__.ps ds kw (dZero___str__.dfl.map dvDat) = some vals) : (T.en (l + 2)).callK "Zero.__str__" ds kw = callM (runFn 1 1 (BZero___str__ (T.en (l + 1)))) vals := callK_en (d := dZero___str__) (by kernel_rfl) rfl (by kernel_rfl) rfl eBZero___str__ h
noncomputable def Bzero_of (E : En) : MS := (seqS (ifS (bnd (rdSlot 0) fun x7 => bnd (pur (.str "fixed")) fun x8 => bnd (E.cmp .Eq x7 x8) E.tru) (seqS (bndS (bnd nilA (E.make "Fixed")) retS)
  nextS) nextS)
  (seqS (ifS (bnd (rdSlot 0) fun x5 => bnd (pur (.str "still")) fun x6 => bnd (E.cmp .Eq x5 x6) E.tru) (seqS (bndS (bnd nilA (E.make "Still")) retS)
  nextS) nextS)
  (seqS (ifS (bnd (rdSlot 0) fun x3 => bnd (pur (.str "sliding")) fun x4 => bnd (E.cmp .Eq x3 x4) E.tru) (seqS (bndS (bnd nilA (E.make "Sliding")) retS)
  nextS) nextS)
  (seqS (bndS (ifM (bnd (rdSlot 0) fun x1 => bnd (pur (.str "walking")) fun x2 => bnd (E.cmp .Eq x1 x2) E.tru) (bnd (consA (rdSlot 1) nilA) (E.make "Walking")) (bnd (consA (rdSlot 1) nilA) (E.make "SlidingWalk"))) retS)
  nextS))))
theorem eBzero_of : BodyIs T dzero_of (fun E _ => Bzero_of E) := by
  intro c cl c' cl'
  kernel_rfl
theorem kBzero_of (l : Nat) {ds : List Dat} (h : ds.length = 2) : (T.en (l + 2)).call "zero_of" ds = callM (runFn 2 2 (Bzero_of (T.en (l + 1)))) ds := call_en (d := dzero_of) (by kernel_rfl) rfl (by kernel_rfl) rfl rfl eBzero_of h
theorem wBzero_of (l : Nat) {ds vals : List Dat} {kw : List (Str × Dat)} (h : bindAll dzero_of.ps ds kw (dzero_of.dfl.map dvDat) = some vals) : (T.en (l + 2)).callK "zero_of" ds kw = callM (runFn 2 2 (Bzero_of (T.en (l + 1)))) vals := callK_en (d := dzero_of) (by kernel_rfl) rfl (by kernel_rfl) rfl eBzero_of h
noncomputable def Bzero_in (E : En) : MS := (seqS (ifS (orT (bnd (b1 rLen (pkSlot 0)) fun x13 => bnd (rdSlot 1) fun x14 => bnd (E.cmp .LtE x13 x14) E.tru) (bnd (ixS 0 (rdSlot 1)) fun x11 => bnd (bnd (pur (.tup [.str "fixed", .str "still", .str "walking", .str "sliding", .str "slidewalk"])) vw) fun x12 => bnd (inn true x11 x12) E.tru)) (seqS (bndS (consA (pur (.int 0)) (consA (rdSlot 1) nilA)) (E.raiseS "BadText"))
  nextS) nextS)
  (seqS (bndS (consA (ixS 0 (rdSlot 1)) (consA (pur .non) nilA)) (par2 2 3))
  (seqS (bndS (bnd (rdSlot 1) fun x9 => bnd (pur (.int 1)) fun x10 => E.bin .Add x9 x10) (asgS 4))
  (seqS (ifS (bnd (rdSlot 2) fun x3 => bnd (bnd (pur (.tup [.str "walking", .str "slidewalk"])) vw) fun x4 => bnd (inn false x3 x4) E.tru) (seqS (bndS (ifM (bnd (b1 rLen (pkSlot 0)) fun x7 => bnd (rdSlot 4) fun x8 => bnd (E.cmp .Gt x7 x8) E.tru) (bnd (consA (ixS 0 (rdSlot 4)) nilA) (E.call "size_in")) (pur .non)) (asgS 3))
  (seqS (ifS (bnd (rdSlot 3) fun x5 => bnd (pur .non) fun x6 => bnd (E.cmp .Is x5 x6) E.tru) (seqS (bndS (consA (pur (.int 0)) (consA (rdSlot 4) nilA)) (E.raiseS "BadText"))
  nextS) nextS)
  (seqS (augS 4 (pur (.int 1)) (E.inp .Add))
  nextS))) nextS)
  (seqS (ifS (bnd (b1 rLen (pkSlot 0)) fun x1 => bnd (rdSlot 4) fun x2 => bnd (E.cmp .Gt x1 x2) E.tru) (seqS (bndS (consA (pur (.int 0)) (consA (rdSlot 4) nilA)) (E.raiseS "BadText"))
  nextS) nextS)
  (seqS (bndS (bnd (consA (rdSlot 2) (consA (rdSlot 3) nilA)) (E.call "zero_of")) retS)
  nextS))))))
theorem eBzero_in : BodyIs T dzero_in (fun E _ => Bzero_in E) := by
  intro c cl c' cl'
  kernel_rfl
theorem kBzero_in (l : Nat) {ds : List Dat} (h : ds.length = 2) : (T.en (l + 2)).call "zero_in" ds = callM (runFn 2 5 (Bzero_in (T.en (l + 1)))) ds := call_en (d := dzero_in) (by kernel_rfl) rfl (by kernel_rfl) rfl rfl eBzero_in h
theorem wBzero_in (l : Nat) {ds vals : List Dat} {kw : List (Str × Dat)} (h : bindAll dzero_in.ps ds kw (dzero_in.dfl.map dvDat) = some vals) : (T.en (l + 2)).callK "zero_in" ds kw = callM (runFn 2 5 (Bzero_in (T.en (l + 1)))) vals := callK_en (d := dzero_in) (by kernel_rfl) rfl (by kernel_rfl) rfl eBzero_in h
noncomputable def B_law_pen (E : En) : MS := (seqS (bndS (cellM (consA (b1 rListC (bnd (bnd (rdSlot 0) fun x1 => bnd (partM none) fun l2 => bnd (partM (some (pur (.int 63)))) fun h3 => sliceM x1 l2 h3) vw)) (consA (pur (.int 0)) (consA (pur (.int 0)) nilA)))) retS)
  nextS)
theorem eB_law_pen : BodyIs T d_law_pen (fun E _ => B_law_pen E) := by
  intro c cl c' cl'
  kernel_rfl
theorem kB_law_pen (l : Nat) {ds : List Dat} (h : ds.length = 1) : (T.en (l + 2)).call "_law_pen" ds = callM (runFn 1 1 (B_law_pen (T.en (l + 1)))) ds := call_en (d := d_law_pen) (by kernel_rfl) rfl (by kernel_rfl) rfl rfl eB_law_pen h
theorem wB_law_pen (l : Nat) {ds vals : List Dat} {kw : List (Str × Dat)} (h : bindAll d_law_pen.ps ds kw (d_law_pen.dfl.map dvDat) = some vals) : (T.en (l + 2)).callK "_law_pen" ds kw = callM (runFn 1 1 (B_law_pen (T.en (l + 1)))) vals := callK_en (d := d_law_pen) (by kernel_rfl) rfl (by kernel_rfl) rfl eB_law_pen h
noncomputable def B_law_draw (E : En) : MS := (seqS (ifS (bnd (ixS 0 (pur (.int 2))) fun x69 => bnd (pur (.int 0)) fun x70 => bnd (E.cmp .Gt x69 x70) E.tru) (seqS (bndS (bnd (bA rIntC (consA (ixS 0 (pur (.int 2))) nilA)) fun x75 => bnd (rdSlot 1) fun x76 => E.bin .Mod x75 x76) (asgS 2))
  (seqS (bndS (bnd (bA rIntC (consA (ixS 0 (pur (.int 2))) nilA)) fun x73 => bnd (rdSlot 1) fun x74 => E.bin .FloorDiv x73 x74) fun v71 => bndS (pkSlot 0) fun _ => bndS (pur (.int 2)) fun y72 => setIx 0 v71 y72)
  (seqS (bndS (rdSlot 2) retS)
  nextS))) nextS)
  (seqS (bndS (ixS 0 (pur (.int 1))) (asgS 3))
  (seqS (bndS (bnd (rdSlot 3) fun x67 => bnd (pur (.int 1)) fun x68 => E.bin .Add x67 x68) fun v65 => bndS (pkSlot 0) fun _ => bndS (pur (.int 1)) fun y66 => setIx 0 v65 y66)
  (seqS (bndS (bnd (bnd (pur (.int 72550)) fun x63 => bnd (rdSlot 3) fun x64 => E.bin .Mult x63 x64) fun x61 => bnd (pur (.int 616)) fun x62 => E.bin .Add x61 x62) (asgS 4))
  (seqS (ifS (bnd (ixS 0 (pur (.int 0))) fun x57 => bnd (lstM nilA) fun x58 => bnd (E.cmp .NotEq x57 x58) E.tru) (seqS (bndS (ixE (ixS 0 (pur (.int 0))) (bnd (bA rIntC (consA (rdSlot 3) nilA)) fun x59 => bnd (b1 rLen (bnd (ixS 0 (pur (.int 0))) vw)) fun x60 => E.bin .Mod x59 x60)) (asgS 4))
  nextS) nextS)
  (seqS (ifS (andT (bnd (rdSlot 3) fun x39 => bnd (b1 rLen (bnd (ixS 0 (pur (.int 0))) vw)) fun x40 => bnd (E.cmp .Lt x39 x40) E.tru) (bnd (bA (orR rAbsI (E.rUna "__abs__")) (consA (rdSlot 4) nilA)) fun x35 => bnd (bnd (pur (.int 10)) fun x37 => bnd (pur (.int 18)) fun x38 => E.bin .Pow x37 x38) fun x36 => bnd (E.cmp .GtE x35 x36) E.tru)) (seqS (bndS (bnd (bnd (pur (.int 2)) fun x49 => bnd (bnd (bA (orR rAbsI (E.rUna "__abs__")) (consA (rdSlot 4) nilA)) fun x51 => bnd (bnd (pur (.int 10)) fun x53 => bnd (pur (.int 18)) fun x54 => E.bin .Pow x53 x54) fun x52 => E.bin .Sub x51 x52) fun x50 => E.bin .Mult x49 x50) fun x47 => bnd (bA rIntC (consA (bnd (rdSlot 4) fun x55 => bnd (pur (.int 0)) fun x56 => E.cmp .Lt x55 x56) nilA)) fun x48 => E.bin .Add x47 x48) (asgS 5))
  (seqS (bndS (bnd (bA rIntC (consA (rdSlot 5) nilA)) fun x45 => bnd (rdSlot 1) fun x46 => E.bin .FloorDiv x45 x46) fun v43 => bndS (pkSlot 0) fun _ => bndS (pur (.int 2)) fun y44 => setIx 0 v43 y44)
  (seqS (bndS (bnd (bA rIntC (consA (rdSlot 5) nilA)) fun x41 => bnd (rdSlot 1) fun x42 => E.bin .Mod x41 x42) retS)
  nextS))) nextS)
  (seqS (bndS (bnd (bA rIntC (consA (bnd (bnd (bnd (bnd (bA rIntC (consA (rdSlot 4) nilA)) fun x31 => bnd (pur (.int 2147483587)) fun x32 => E.bin .Mod x31 x32) fun x29 => bnd (bnd (pur (.int 75344)) fun x33 => bnd (rdSlot 3) fun x34 => E.bin .Mult x33 x34) fun x30 => E.bin .Add x29 x30) fun x27 => bnd (pur (.int 616)) fun x28 => E.bin .Add x27 x28) fun x25 => bnd (pur (.int 5)) fun x26 => E.bin .Pow x25 x26) nilA)) fun x23 => bnd (pur (.int 2147483647)) fun x24 => E.bin .Mod x23 x24) (asgS 6))
  (seqS (bndS (bnd (bA rIntC (consA (bnd (bnd (bnd (bnd (rdSlot 6) fun x13 => bnd (bnd (bnd (pur (.int 2)) fun x17 => bnd (rdSlot 3) fun x18 => E.bin .Mult x17 x18) fun x15 => bnd (pur (.int 89)) fun x16 => E.bin .Add x15 x16) fun x14 => E.bin .Mult x13 x14) fun x11 => bnd (bnd (bnd (pur (.int 56174)) fun x21 => bnd (rdSlot 3) fun x22 => E.bin .Mult x21 x22) fun x19 => bnd (rdSlot 3) fun x20 => E.bin .Mult x19 x20) fun x12 => E.bin .Add x11 x12) fun x9 => bnd (pur (.int 29)) fun x10 => E.bin .Add x9 x10) fun x7 => bnd (pur (.int 3)) fun x8 => E.bin .Pow x7 x8) nilA)) fun x5 => bnd (pur (.int 2147483629)) fun x6 => E.bin .Mod x5 x6) (asgS 6))
  (seqS (bndS (bnd (bA rIntC (consA (bnd (rdSlot 6) fun x3 => bnd (pur (.int 32)) fun x4 => E.bin .FloorDiv x3 x4) nilA)) fun x1 => bnd (rdSlot 1) fun x2 => E.bin .Mod x1 x2) retS)
  nextS)))))))))
theorem eB_law_draw : BodyIs T d_law_draw (fun E _ => B_law_draw E) := by
  intro c cl c' cl'
  kernel_rfl
theorem kB_law_draw (l : Nat) {ds : List Dat} (h : ds.length = 2) : (T.en (l + 2)).call "_law_draw" ds = callM (runFn 2 7 (B_law_draw (T.en (l + 1)))) ds := call_en (d := d_law_draw) (by kernel_rfl) rfl (by kernel_rfl) rfl rfl eB_law_draw h
theorem wB_law_draw (l : Nat) {ds vals : List Dat} {kw : List (Str × Dat)} (h : bindAll d_law_draw.ps ds kw (d_law_draw.dfl.map dvDat) = some vals) : (T.en (l + 2)).callK "_law_draw" ds kw = callM (runFn 2 7 (B_law_draw (T.en (l + 1)))) vals := callK_en (d := d_law_draw) (by kernel_rfl) rfl (by kernel_rfl) rfl eB_law_draw h
noncomputable def B_law_pick (E : En) : MS := (seqS (bndS (ixS 1 (bnd (consA (rdSlot 0) (consA (b1 rLen (pkSlot 1)) nilA)) (E.call "_law_draw"))) retS)
  nextS)
theorem eB_law_pick : BodyIs T d_law_pick (fun E _ => B_law_pick E) := by
  intro c cl c' cl'
  kernel_rfl
theorem kB_law_pick (l : Nat) {ds : List Dat} (h : ds.length = 2) : (T.en (l + 2)).call "_law_pick" ds = callM (runFn 2 2 (B_law_pick (T.en (l + 1)))) ds := call_en (d := d_law_pick) (by kernel_rfl) rfl (by kernel_rfl) rfl rfl eB_law_pick h
theorem wB_law_pick (l : Nat) {ds vals : List Dat} {kw : List (Str × Dat)} (h : bindAll d_law_pick.ps ds kw (d_law_pick.dfl.map dvDat) = some vals) : (T.en (l + 2)).callK "_law_pick" ds kw = callM (runFn 2 2 (B_law_pick (T.en (l + 1)))) vals := callK_en (d := d_law_pick) (by kernel_rfl) rfl (by kernel_rfl) rfl eB_law_pick h
noncomputable def B_law_share (E : En) : MS := (seqS (bndS (bnd (consA (rdSlot 0) (consA (lstM (consA (pur (.int 0)) (consA (pur (.int 1)) (consA (bnd (pur (.int 1)) fun x11 => E.una .USub x11) (consA (pur (.int 2)) (consA (bnd (pur (.int 3)) fun x10 => E.una .USub x10) (consA (pur (.int 9)) (consA (bnd (pur (.int 9)) fun x9 => E.una .USub x9) (consA (pur (.int 10)) (consA (bnd (pur (.int 10)) fun x7 => bnd (pur (.int 29)) fun x8 => E.bin .Pow x7 x8) (consA (bnd (bnd (consA (rdSlot 0) (consA (pur (.int 60)) nilA)) (E.call "_law_draw")) fun x5 => bnd (pur (.int 30)) fun x6 => E.bin .Sub x5 x6) nilA))))))))))) nilA)) (E.call "_law_pick")) (asgS 1))
  (seqS (bndS (tupM (consA (rdSlot 1) (consA (bnd (consA (rdSlot 0) (consA (lstM (consA (pur (.int 1)) (consA (pur (.int 1)) (consA (pur (.int 1)) (consA (pur (.int 2)) (consA (pur (.int 3)) (consA (bnd (bnd (pur (.int 10)) fun x3 => bnd (pur (.int 29)) fun x4 => E.bin .Pow x3 x4) fun x1 => bnd (pur (.int 1)) fun x2 => E.bin .Add x1 x2) nilA))))))) nilA)) (E.call "_law_pick")) nilA))) retS)
  nextS))
theorem eB_law_share : BodyIs T d_law_share (fun E _ => B_law_share E) := by
  intro c cl c' cl'
  kernel_rfl
theorem kB_law_share (l : Nat) {ds : List Dat} (h : ds.length = 1) : (T.en (l + 2)).call "_law_share" ds = callM (runFn 1 2 (B_law_share (T.en (l + 1)))) ds := call_en (d := d_law_share) (by kernel_rfl) rfl (by kernel_rfl) rfl rfl eB_law_share h
theorem wB_law_share (l : Nat) {ds vals : List Dat} {kw : List (Str × Dat)} (h : bindAll d_law_share.ps ds kw (d_law_share.dfl.map dvDat) = some vals) : (T.en (l + 2)).callK "_law_share" ds kw = callM (runFn 1 2 (B_law_share (T.en (l + 1)))) vals := callK_en (d := d_law_share) (by kernel_rfl) rfl (by kernel_rfl) rfl eB_law_share h
noncomputable def B_law_every_f0 (E : En) : MS := (seqS (bndS (appM 1 (tupM (consA (pur (.str "walking")) (consA (rdSlot 2) (consA (bnd (consA (bnd (consA (ixS 2 (pur (.int 0))) (consA (ixS 2 (pur (.int 1))) nilA)) (E.make "Amount")) nilA) (E.make "Walking")) nilA))))) fun _ => nextS)
  (seqS (bndS (appM 1 (tupM (consA (pur (.str "slidewalk")) (consA (rdSlot 2) (consA (bnd (consA (bnd (consA (ixS 2 (pur (.int 0))) (consA (ixS 2 (pur (.int 1))) nilA)) (E.make "Amount")) nilA) (E.make "SlidingWalk")) nilA))))) fun _ => nextS)
  nextS))
noncomputable def B_law_every (E : En) : MS := (seqS (bndS (consA (tupM (consA (pur (.str "fixed")) (consA (tupM (consA (pur (.int 0)) (consA (pur (.int 1)) nilA))) (consA (bnd nilA (E.make "Fixed")) nilA)))) (consA (tupM (consA (pur (.str "still")) (consA (tupM (consA (pur (.int 0)) (consA (pur (.int 1)) nilA))) (consA (bnd nilA (E.make "Still")) nilA)))) (consA (tupM (consA (pur (.str "sliding")) (consA (tupM (consA (pur (.int 0)) (consA (pur (.int 1)) nilA))) (consA (bnd nilA (E.make "Sliding")) nilA)))) nilA))) (ownL 1))
  (seqS (bndS (bnd (rdSlot 0) itemsM) (forM (asgS 2) (B_law_every_f0 E)))
  (seqS (bndS (rdSlot 1) retS)
  nextS)))
theorem eB_law_every : BodyIs T d_law_every (fun E _ => B_law_every E) := by
  intro c cl c' cl'
  kernel_rfl
theorem kB_law_every (l : Nat) {ds : List Dat} (h : ds.length = 1) : (T.en (l + 2)).call "_law_every" ds = callM (runFn 1 3 (B_law_every (T.en (l + 1)))) ds := call_en (d := d_law_every) (by kernel_rfl) rfl (by kernel_rfl) rfl rfl eB_law_every h
theorem wB_law_every (l : Nat) {ds vals : List Dat} {kw : List (Str × Dat)} (h : bindAll d_law_every.ps ds kw (d_law_every.dfl.map dvDat) = some vals) : (T.en (l + 2)).callK "_law_every" ds kw = callM (runFn 1 3 (B_law_every (T.en (l + 1)))) vals := callK_en (d := d_law_every) (by kernel_rfl) rfl (by kernel_rfl) rfl eB_law_every h
noncomputable def B_law_lets (E : En) : MS := (seqS (ifS (bnd (ixS 0 (pur (.int 0))) fun x13 => bnd (pur (.str "fixed")) fun x14 => bnd (E.cmp .Eq x13 x14) E.tru) (seqS (bndS (pur (.bl true)) retS)
  nextS) nextS)
  (seqS (ifS (orT (bnd (ixS 1 (pur (.int 0))) fun x11 => bnd (pur (.str "fixed")) fun x12 => bnd (E.cmp .Eq x11 x12) E.tru) (andT (bnd (ixS 0 (pur (.int 0))) fun x9 => bnd (bnd (tupM (consA (pur (.str "sliding")) (consA (pur (.str "slidewalk")) nilA))) vw) fun x10 => bnd (inn false x9 x10) E.tru) (bnd (ixS 1 (pur (.int 0))) fun x7 => bnd (bnd (tupM (consA (pur (.str "sliding")) (consA (pur (.str "slidewalk")) nilA))) vw) fun x8 => bnd (inn true x7 x8) E.tru))) (seqS (bndS (pur (.bl false)) retS)
  nextS) nextS)
  (seqS (bndS (bnd (bnd (ixE (ixS 0 (pur (.int 1))) (pur (.int 0))) fun x3 => bnd (ixE (ixS 1 (pur (.int 1))) (pur (.int 1))) fun x4 => E.bin .Mult x3 x4) fun x1 => bnd (bnd (ixE (ixS 1 (pur (.int 1))) (pur (.int 0))) fun x5 => bnd (ixE (ixS 0 (pur (.int 1))) (pur (.int 1))) fun x6 => E.bin .Mult x5 x6) fun x2 => E.cmp .LtE x1 x2) retS)
  nextS)))
theorem eB_law_lets : BodyIs T d_law_lets (fun E _ => B_law_lets E) := by
  intro c cl c' cl'
  kernel_rfl
theorem kB_law_lets (l : Nat) {ds : List Dat} (h : ds.length = 2) : (T.en (l + 2)).call "_law_lets" ds = callM (runFn 2 2 (B_law_lets (T.en (l + 1)))) ds := call_en (d := d_law_lets) (by kernel_rfl) rfl (by kernel_rfl) rfl rfl eB_law_lets h
theorem wB_law_lets (l : Nat) {ds vals : List Dat} {kw : List (Str × Dat)} (h : bindAll d_law_lets.ps ds kw (d_law_lets.dfl.map dvDat) = some vals) : (T.en (l + 2)).callK "_law_lets" ds kw = callM (runFn 2 2 (B_law_lets (T.en (l + 1)))) vals := callK_en (d := d_law_lets) (by kernel_rfl) rfl (by kernel_rfl) rfl eB_law_lets h
noncomputable def Blaw_e0 (E : En) : M Dat := (ixE (bnd (consA (rdSlot 1) (consA (rdSlot 7) nilA)) (E.call "_law_pick")) (pur (.int 2)))
noncomputable def Blaw_f1 (E : En) : MS := (seqS (bndS (bnd (consA (rdSlot 8) (consA (rdSlot 9) nilA)) (E.call "_law_lets")) (asgS 10))
  (seqS (bndS (andV (rdSlot 10) (bnd (bnd (consA (rdSlot 9) (consA (rdSlot 8) nilA)) (E.call "_law_lets")) E.notV)) (asgS 11))
  (seqS (bndS (consA (ixS 8 (pur (.int 2))) (consA (ixS 9 (pur (.int 2))) nilA)) (par2 12 13))
  (seqS (ifS (bnd (bA E.rRep (consA (lstM (consA (bnd (rdSlot 12) fun x30 => bnd (rdSlot 13) fun x31 => E.cmp .LtE x30 x31) (consA (bnd (rdSlot 12) fun x28 => bnd (rdSlot 13) fun x29 => E.cmp .Lt x28 x29) (consA (bnd (rdSlot 13) fun x26 => bnd (rdSlot 12) fun x27 => E.cmp .GtE x26 x27) (consA (bnd (rdSlot 13) fun x24 => bnd (rdSlot 12) fun x25 => E.cmp .Gt x24 x25) nilA))))) nilA)) fun x22 => bnd (bA E.rRep (consA (lstM (consA (rdSlot 10) (consA (rdSlot 11) (consA (rdSlot 10) (consA (rdSlot 11) nilA))))) nilA)) fun x23 => bnd (E.cmp .NotEq x22 x23) E.tru) (seqS (bndS (pur (.bl false)) retS)
  nextS) nextS)
  nextS))))
noncomputable def Blaw_f2 (E : En) : MS := (seqS (bndS (bnd (rdSlot 7) itemsM) (forM (asgS 9) (Blaw_f1 E)))
  nextS)
noncomputable def Blaw_f3 (E : En) : MS := (seqS (bndS (bnd (consA (rdSlot 1) nilA) (E.call "_law_share")) (unpG 2 (consG (asgS 5) (consG (asgS 6) nilG))))
  (seqS (bndS (appM 3 (tupM (consA (bA (orR rAbsI (E.rUna "__abs__")) (consA (rdSlot 5) nilA)) (consA (rdSlot 6) nilA)))) fun _ => nextS)
  nextS))
noncomputable def Blaw_f4 (E : En) : MS := (seqS (bndS (consA (tupM (consA (pur (.int 0)) (consA (pur (.int 1)) nilA))) nilA) (ownL 3))
  (seqS (bndS (bnd (consA (pur (.int 2)) nilA) rangeM) (forM (asgS 4) (Blaw_f3 E)))
  (seqS (bndS (bnd (consA (rdSlot 3) nilA) (E.call "_law_every")) (asgS 7))
  (seqS (bndS (bnd (rdSlot 7) itemsM) (forM (asgS 8) (Blaw_f2 E)))
  (seqS (bndS (lcM [4] (bnd (consA (pur (.int 3)) nilA) rangeM) (asgS 4) (pur true) (Blaw_e0 E)) (asgS 14))
  (seqS (ifS (andT (bnd (ixS 14 (pur (.int 0))) fun x20 => bnd (ixS 14 (pur (.int 1))) fun x21 => bnd (E.cmp .LtE x20 x21) E.tru) (andT (bnd (ixS 14 (pur (.int 1))) fun x18 => bnd (ixS 14 (pur (.int 2))) fun x19 => bnd (E.cmp .LtE x18 x19) E.tru) (notT (bnd (ixS 14 (pur (.int 0))) fun x16 => bnd (ixS 14 (pur (.int 2))) fun x17 => bnd (E.cmp .LtE x16 x17) E.tru)))) (seqS (bndS (pur (.bl false)) retS)
  nextS) nextS)
  nextS))))))
noncomputable def Blaw (E : En) : MS := (seqS (bndS (bnd (consA (rdSlot 0) nilA) (E.call "_law_pen")) (asgS 1))
  (seqS (bndS (bnd (consA (pur (.int 4)) nilA) rangeM) (forM (asgS 2) (Blaw_f4 E)))
  (seqS (ifS (orT (bnd (bnd (consA (pur (.int 9)) nilA) (E.make "Walking")) fun x14 => bnd (bnd nilA (E.make "Sliding")) fun x15 => bnd (E.cmp .LtE x14 x15) E.tru) (orT (bnd (bnd nilA (E.make "Sliding")) fun x12 => bnd (bnd (consA (pur (.int 9)) nilA) (E.make "Walking")) fun x13 => bnd (E.cmp .LtE x12 x13) E.tru) (notT (bnd (bnd (consA (pur (.int 0)) nilA) (E.make "Walking")) fun x10 => bnd (bnd nilA (E.make "Still")) fun x11 => bnd (E.cmp .LtE x10 x11) E.tru)))) (seqS (bndS (pur (.bl false)) retS)
  nextS) nextS)
  (seqS (bndS (andV (bnd (bnd nilA (E.make "Still")) fun x8 => bnd (bnd (consA (pur (.int 0)) nilA) (E.make "Walking")) fun x9 => E.cmp .LtE x8 x9) (andV (bnd (bnd (bnd nilA (E.make "Still")) fun x6 => bnd (bnd (consA (pur (.int 0)) nilA) (E.make "Walking")) fun x7 => E.cmp .Lt x6 x7) E.notV) (andV (bnd (bnd nilA (E.make "Fixed")) fun x3 => bnd (bnd nilA (E.make "Still")) fun x4 => E.cmp .Lt x3 x4) (bnd (bnd (consA (pur (.int 2)) nilA) (E.make "Walking")) fun x1 => bnd (bnd (consA (pur (.int 2)) nilA) (E.make "SlidingWalk")) fun x2 => E.cmp .Lt x1 x2)))) retS)
  nextS))))
theorem eBlaw : BodyIs T dlaw (fun E _ => Blaw E) := by
  intro c cl c' cl'
  kernel_rfl
theorem kBlaw (l : Nat) {ds : List Dat} (h : ds.length = 1) : (T.en (l + 2)).call "law" ds = callM (runFn 1 15 (Blaw (T.en (l + 1)))) ds := call_en (d := dlaw) (by kernel_rfl) rfl (by kernel_rfl) rfl rfl eBlaw h
theorem wBlaw (l : Nat) {ds vals : List Dat} {kw : List (Str × Dat)} (h : bindAll dlaw.ps ds kw (dlaw.dfl.map dvDat) = some vals) : (T.en (l + 2)).callK "law" ds kw = callM (runFn 1 15 (Blaw (T.en (l + 1)))) vals := callK_en (d := dlaw) (by kernel_rfl) rfl (by kernel_rfl) rfl eBlaw h
noncomputable def BFixed___init__ (E : En) : MS := nextS
theorem eBFixed___init__ : SupIs T sFixed___init__ (fun E _ => BFixed___init__ E) := by
  intro c cl c' cl'
  kernel_rfl
theorem iBFixed___init__ (l : Nat) : (T.en (l + 2)).ini "Fixed" = some ⟨runIn 1 1 (seqS (superS (T.en (l + 1)) sFixed___init__.tab) (BFixed___init__ (T.en (l + 1)))), 1, sFixed___init__.d.dfl.map dvDat, adP sFixed___init__.d.at_, sFixed___init__.d.ps⟩ := ini_sup (q := "Fixed.__init__") (by kernel_rfl) (by kernel_rfl) (by kernel_rfl) (by kernel_rfl) rfl eBFixed___init__
theorem kBFixed___init__ (l : Nat) {ds : List Dat} (h1 : 1 ≤ ds.length + 1) (h2 : ds.length + 1 ≤ 1) : (T.en (l + 2)).make "Fixed" ds = callM (runIn 1 1 (seqS (superS (T.en (l + 1)) sFixed___init__.tab) (BFixed___init__ (T.en (l + 1))))) (Dat.ins "Fixed" [] :: (ds ++ (sFixed___init__.d.dfl.map dvDat).drop (ds.length + 1 + sFixed___init__.d.dfl.length - 1))) := make_sup (q := "Fixed.__init__") (by kernel_rfl) (by kernel_rfl) (by kernel_rfl) (by kernel_rfl) rfl eBFixed___init__ h1 h2
theorem wBFixed___init__ (l : Nat) {ds vals : List Dat} {kw : List (Str × Dat)} {rest : List (Option Dat)} (hv : bindAll sFixed___init__.d.ps (none :: ds.map some) (kw.map fun p => (p.1, some p.2)) ((sFixed___init__.d.dfl.map dvDat).map some) = some (none :: rest)) (hr : allSome rest = some vals) : (T.en (l + 2)).makeK "Fixed" ds kw = callM (runIn 1 1 (seqS (superS (T.en (l + 1)) sFixed___init__.tab) (BFixed___init__ (T.en (l + 1))))) (Dat.ins "Fixed" [] :: vals) := makeK_sup (q := "Fixed.__init__") (by kernel_rfl) (by kernel_rfl) (by kernel_rfl) (by kernel_rfl) rfl eBFixed___init__ hv hr
noncomputable def BStill___init__ (E : En) : MS := nextS
theorem eBStill___init__ : SupIs T sStill___init__ (fun E _ => BStill___init__ E) := by
  intro c cl c' cl'
  kernel_rfl
theorem iBStill___init__ (l : Nat) : (T.en (l + 2)).ini "Still" = some ⟨runIn 1 1 (seqS (superS (T.en (l + 1)) sStill___init__.tab) (BStill___init__ (T.en (l + 1)))), 1, sStill___init__.d.dfl.map dvDat, adP sStill___init__.d.at_, sStill___init__.d.ps⟩ := ini_sup (q := "Still.__init__") (by kernel_rfl) (by kernel_rfl) (by kernel_rfl) (by kernel_rfl) rfl eBStill___init__
theorem kBStill___init__ (l : Nat) {ds : List Dat} (h1 : 1 ≤ ds.length + 1) (h2 : ds.length + 1 ≤ 1) : (T.en (l + 2)).make "Still" ds = callM (runIn 1 1 (seqS (superS (T.en (l + 1)) sStill___init__.tab) (BStill___init__ (T.en (l + 1))))) (Dat.ins "Still" [] :: (ds ++ (sStill___init__.d.dfl.map dvDat).drop (ds.length + 1 + sStill___init__.d.dfl.length - 1))) := make_sup (q := "Still.__init__") (by kernel_rfl) (by kernel_rfl) (by kernel_rfl) (by kernel_rfl) rfl eBStill___init__ h1 h2
theorem wBStill___init__ (l : Nat) {ds vals : List Dat} {kw : List (Str × Dat)} {rest : List (Option Dat)} (hv : bindAll sStill___init__.d.ps (none :: ds.map some) (kw.map fun p => (p.1, some p.2)) ((sStill___init__.d.dfl.map dvDat).map some) = some (none :: rest)) (hr : allSome rest = some vals) : (T.en (l + 2)).makeK "Still" ds kw = callM (runIn 1 1 (seqS (superS (T.en (l + 1)) sStill___init__.tab) (BStill___init__ (T.en (l + 1))))) (Dat.ins "Still" [] :: vals) := makeK_sup (q := "Still.__init__") (by kernel_rfl) (by kernel_rfl) (by kernel_rfl) (by kernel_rfl) rfl eBStill___init__ hv hr
noncomputable def BWalking___init__ (E : En) : MS := (seqS (ifS (notT (bnd (bnd (consA (rdSlot 1) nilA) (E.call "is_size")) E.tru)) (seqS (bndS (consA (pur (.str "pace")) nilA) (E.raiseS "BadZero"))
  nextS) nextS)
  (seqS (bndS (bnd (pur (.cls "Amount")) (E.mth "of" (consA (rdSlot 1) nilA))) fun d1 => E.fldS 0 "pace" d1)
  nextS))
theorem eBWalking___init__ : SupIs T sWalking___init__ (fun E _ => BWalking___init__ E) := by
  intro c cl c' cl'
  kernel_rfl
theorem iBWalking___init__ (l : Nat) : (T.en (l + 2)).ini "Walking" = some ⟨runIn 2 2 (seqS (superS (T.en (l + 1)) sWalking___init__.tab) (BWalking___init__ (T.en (l + 1)))), 2, sWalking___init__.d.dfl.map dvDat, adP sWalking___init__.d.at_, sWalking___init__.d.ps⟩ := ini_sup (q := "Walking.__init__") (by kernel_rfl) (by kernel_rfl) (by kernel_rfl) (by kernel_rfl) rfl eBWalking___init__
theorem kBWalking___init__ (l : Nat) {ds : List Dat} (h1 : 1 ≤ ds.length + 1) (h2 : ds.length + 1 ≤ 2) : (T.en (l + 2)).make "Walking" ds = callM (runIn 2 2 (seqS (superS (T.en (l + 1)) sWalking___init__.tab) (BWalking___init__ (T.en (l + 1))))) (Dat.ins "Walking" [] :: (ds ++ (sWalking___init__.d.dfl.map dvDat).drop (ds.length + 1 + sWalking___init__.d.dfl.length - 2))) := make_sup (q := "Walking.__init__") (by kernel_rfl) (by kernel_rfl) (by kernel_rfl) (by kernel_rfl) rfl eBWalking___init__ h1 h2
theorem wBWalking___init__ (l : Nat) {ds vals : List Dat} {kw : List (Str × Dat)} {rest : List (Option Dat)} (hv : bindAll sWalking___init__.d.ps (none :: ds.map some) (kw.map fun p => (p.1, some p.2)) ((sWalking___init__.d.dfl.map dvDat).map some) = some (none :: rest)) (hr : allSome rest = some vals) : (T.en (l + 2)).makeK "Walking" ds kw = callM (runIn 2 2 (seqS (superS (T.en (l + 1)) sWalking___init__.tab) (BWalking___init__ (T.en (l + 1))))) (Dat.ins "Walking" [] :: vals) := makeK_sup (q := "Walking.__init__") (by kernel_rfl) (by kernel_rfl) (by kernel_rfl) (by kernel_rfl) rfl eBWalking___init__ hv hr
noncomputable def BSliding___init__ (E : En) : MS := nextS
theorem eBSliding___init__ : SupIs T sSliding___init__ (fun E _ => BSliding___init__ E) := by
  intro c cl c' cl'
  kernel_rfl
theorem iBSliding___init__ (l : Nat) : (T.en (l + 2)).ini "Sliding" = some ⟨runIn 1 1 (seqS (superS (T.en (l + 1)) sSliding___init__.tab) (BSliding___init__ (T.en (l + 1)))), 1, sSliding___init__.d.dfl.map dvDat, adP sSliding___init__.d.at_, sSliding___init__.d.ps⟩ := ini_sup (q := "Sliding.__init__") (by kernel_rfl) (by kernel_rfl) (by kernel_rfl) (by kernel_rfl) rfl eBSliding___init__
theorem kBSliding___init__ (l : Nat) {ds : List Dat} (h1 : 1 ≤ ds.length + 1) (h2 : ds.length + 1 ≤ 1) : (T.en (l + 2)).make "Sliding" ds = callM (runIn 1 1 (seqS (superS (T.en (l + 1)) sSliding___init__.tab) (BSliding___init__ (T.en (l + 1))))) (Dat.ins "Sliding" [] :: (ds ++ (sSliding___init__.d.dfl.map dvDat).drop (ds.length + 1 + sSliding___init__.d.dfl.length - 1))) := make_sup (q := "Sliding.__init__") (by kernel_rfl) (by kernel_rfl) (by kernel_rfl) (by kernel_rfl) rfl eBSliding___init__ h1 h2
theorem wBSliding___init__ (l : Nat) {ds vals : List Dat} {kw : List (Str × Dat)} {rest : List (Option Dat)} (hv : bindAll sSliding___init__.d.ps (none :: ds.map some) (kw.map fun p => (p.1, some p.2)) ((sSliding___init__.d.dfl.map dvDat).map some) = some (none :: rest)) (hr : allSome rest = some vals) : (T.en (l + 2)).makeK "Sliding" ds kw = callM (runIn 1 1 (seqS (superS (T.en (l + 1)) sSliding___init__.tab) (BSliding___init__ (T.en (l + 1))))) (Dat.ins "Sliding" [] :: vals) := makeK_sup (q := "Sliding.__init__") (by kernel_rfl) (by kernel_rfl) (by kernel_rfl) (by kernel_rfl) rfl eBSliding___init__ hv hr
noncomputable def BSlidingWalk___init__ (E : En) : MS := (seqS (ifS (notT (bnd (bnd (consA (rdSlot 1) nilA) (E.call "is_size")) E.tru)) (seqS (bndS (consA (pur (.str "pace")) nilA) (E.raiseS "BadZero"))
  nextS) nextS)
  (seqS (bndS (bnd (pur (.cls "Amount")) (E.mth "of" (consA (rdSlot 1) nilA))) fun d1 => E.fldS 0 "pace" d1)
  nextS))
theorem eBSlidingWalk___init__ : SupIs T sSlidingWalk___init__ (fun E _ => BSlidingWalk___init__ E) := by
  intro c cl c' cl'
  kernel_rfl
theorem iBSlidingWalk___init__ (l : Nat) : (T.en (l + 2)).ini "SlidingWalk" = some ⟨runIn 2 2 (seqS (superS (T.en (l + 1)) sSlidingWalk___init__.tab) (BSlidingWalk___init__ (T.en (l + 1)))), 2, sSlidingWalk___init__.d.dfl.map dvDat, adP sSlidingWalk___init__.d.at_, sSlidingWalk___init__.d.ps⟩ := ini_sup (q := "SlidingWalk.__init__") (by kernel_rfl) (by kernel_rfl) (by kernel_rfl) (by kernel_rfl) rfl eBSlidingWalk___init__
theorem kBSlidingWalk___init__ (l : Nat) {ds : List Dat} (h1 : 1 ≤ ds.length + 1) (h2 : ds.length + 1 ≤ 2) : (T.en (l + 2)).make "SlidingWalk" ds = callM (runIn 2 2 (seqS (superS (T.en (l + 1)) sSlidingWalk___init__.tab) (BSlidingWalk___init__ (T.en (l + 1))))) (Dat.ins "SlidingWalk" [] :: (ds ++ (sSlidingWalk___init__.d.dfl.map dvDat).drop (ds.length + 1 + sSlidingWalk___init__.d.dfl.length - 2))) := make_sup (q := "SlidingWalk.__init__") (by kernel_rfl) (by kernel_rfl) (by kernel_rfl) (by kernel_rfl) rfl eBSlidingWalk___init__ h1 h2
theorem wBSlidingWalk___init__ (l : Nat) {ds vals : List Dat} {kw : List (Str × Dat)} {rest : List (Option Dat)} (hv : bindAll sSlidingWalk___init__.d.ps (none :: ds.map some) (kw.map fun p => (p.1, some p.2)) ((sSlidingWalk___init__.d.dfl.map dvDat).map some) = some (none :: rest)) (hr : allSome rest = some vals) : (T.en (l + 2)).makeK "SlidingWalk" ds kw = callM (runIn 2 2 (seqS (superS (T.en (l + 1)) sSlidingWalk___init__.tab) (BSlidingWalk___init__ (T.en (l + 1))))) (Dat.ins "SlidingWalk" [] :: vals) := makeK_sup (q := "SlidingWalk.__init__") (by kernel_rfl) (by kernel_rfl) (by kernel_rfl) (by kernel_rfl) rfl eBSlidingWalk___init__ hv hr
end Lw

set_option maxHeartbeats 4000000
namespace Lw
open PySem L2 Zw
/-! ### the amounts -/
abbrev amt (q : Rat) : Dat := .ins "Amount" [("top", .int q.num), ("bottom", .int q.den)]
section
variable (l : Nat)
@[simp] theorem isi_iA (i : Int) : (T.en l).isi [.int i, .cls "Amount"] = pur (.bl false) := by
  obtain ⟨c, cl, h⟩ := en_form T l; rw [h]; kernel_rfl
@[simp] theorem isi_AA (fs : List (Str × Dat)) : (T.en l).isi [.ins "Amount" fs, .cls "Amount"] = pur (.bl true) := by
  obtain ⟨c, cl, h⟩ := en_form T l; rw [h]; kernel_rfl
@[simp] theorem get_top (a b : Dat) : (T.en l).getX (.ins "Amount" [("top", a), ("bottom", b)]) "top" = pur a := by
  obtain ⟨c, cl, h⟩ := en_form T l; rw [h]; kernel_rfl
@[simp] theorem get_bot (a b : Dat) : (T.en l).getX (.ins "Amount" [("top", a), ("bottom", b)]) "bottom" = pur b := by
  obtain ⟨c, cl, h⟩ := en_form T l; rw [h]; kernel_rfl
@[simp] theorem fld_top : (T.en l).fld "Amount" "top" = true := by
  obtain ⟨c, cl, h⟩ := en_form T l; rw [h]; kernel_rfl
@[simp] theorem fld_bot : (T.en l).fld "Amount" "bottom" = true := by
  obtain ⟨c, cl, h⟩ := en_form T l; rw [h]; kernel_rfl
@[simp] theorem c_is_int (i : Int) : (T.en (l + 2)).call "is_int" [.int i] = pur (.bl true) := by
  rw [kBis_int l rfl]
  exact fn_pur rfl fun cs => by simp [Bis_int]
@[simp] theorem c_parts_i (i : Int) : (T.en (l + 2)).call "parts_of" [.int i] = pur (.tup [.int i, .int 1]) := by
  rw [kBparts_of l rfl]
  exact fn_pur rfl fun cs => by simp [Bparts_of]
@[simp] theorem c_parts_A (a b : Dat) : (T.en (l + 2)).call "parts_of" [.ins "Amount" [("top", a), ("bottom", b)]] = pur (.tup [a, b]) := by
  rw [kBparts_of l rfl]
  exact fn_pur rfl fun cs => by simp [Bparts_of]
theorem sd_loop (E : En) : ∀ (b a : Nat) (cs : List (Option Dat)), whileM (Bshared_divisor_c0 E) (Bshared_divisor_w1 E) ⟨[.val (.int a), .val (.int b)], cs⟩ = .nx ⟨[.val (.int (Nat.gcd a b : Nat)), .val (.int 0)], cs⟩ := by
  intro b
  induction b using Nat.strongRecOn with
  | ind b ih =>
    intro a cs
    by_cases hb : b = 0
    · subst hb
      rw [while_false (s1 := ⟨[.val (.int a), .val (.int 0)], cs⟩) (by simp [Bshared_divisor_c0])]
      simp
    · have h0 : (b : Int) ≠ 0 := by omega
      rw [while_true (s1 := ⟨[.val (.int a), .val (.int b)], cs⟩) (s2 := ⟨[.val (.int b), .val (.int (a % b : Nat))], cs⟩) (by simp [Bshared_divisor_c0]; omega) (by
        simp [Bshared_divisor_w1, z_mod _ _ _ h0]
        exact Int.fmod_eq_emod_of_nonneg _ (by omega)), ih (a % b) (Nat.mod_lt _ (by omega)) b cs]
      rw [Nat.gcd_comm b (a % b), ← Nat.gcd_rec, Nat.gcd_comm]
@[simp] theorem c_sd (a b : Nat) : (T.en (l + 2)).call "shared_divisor" [.int a, .int b] = pur (.int (Nat.gcd a b : Nat)) := by
  rw [kBshared_divisor l rfl]
  exact fn_pur rfl fun cs => by simp [Bshared_divisor, sd_loop]
end
end Lw

namespace Lw
open PySem L2 Zw
theorem fdiv_exact {t s : Int} {g : Nat} (hg : 0 < g) (hs : s = 1 ∨ s = -1) (hd : (g : Int) ∣ t) : t.fdiv (s * g) = s * t / g := by
  obtain ⟨k, rfl⟩ := hd
  have g0 : (g : Int) ≠ 0 := by omega
  rcases hs with rfl | rfl
  · rw [Int.one_mul, Int.one_mul, Int.mul_ediv_cancel_left _ g0, Int.fdiv_eq_ediv_of_nonneg _ (by omega), Int.mul_ediv_cancel_left _ g0]
  · have : (g : Int) * k = (-1 * (g : Int)) * (-k) := by rw [Int.neg_one_mul, Int.neg_mul_neg]
    rw [this, Int.mul_fdiv_cancel_left _ (by omega)]
    have e : -1 * (-1 * (g : Int) * -k) = (g : Int) * (-k) := by
      rw [Int.neg_one_mul, Int.neg_one_mul, Int.neg_mul_neg, Int.mul_neg]
    rw [e, Int.mul_ediv_cancel_left _ g0]
theorem num_init {t b s : Int} (hb : b ≠ 0) (hs : s = b.sign) : t.fdiv (s * (Nat.gcd t.natAbs b.natAbs : Nat)) = (Rat.divInt t b).num := by
  have hg : 0 < Nat.gcd t.natAbs b.natAbs := Nat.gcd_pos_of_pos_right _ (by omega)
  have h1 : s = 1 ∨ s = -1 := by
    subst hs
    rcases Int.lt_trichotomy b 0 with h | h | h
    · exact .inr (Int.sign_eq_neg_one_of_neg h)
    · exact absurd h hb
    · exact .inl (Int.sign_eq_one_of_pos h)
  rw [fdiv_exact hg h1 (Int.ofNat_dvd_left.mpr (Nat.gcd_dvd_left _ _)), Rat.num_divInt, hs]
  rw [show b.gcd t = Nat.gcd t.natAbs b.natAbs from Nat.gcd_comm _ _]
theorem den_init {t b s : Int} (hb : b ≠ 0) (hs : s = b.sign) : b.fdiv (s * (Nat.gcd t.natAbs b.natAbs : Nat)) = ((Rat.divInt t b).den : Int) := by
  have hg : 0 < Nat.gcd t.natAbs b.natAbs := Nat.gcd_pos_of_pos_right _ (by omega)
  have h1 : s = 1 ∨ s = -1 := by
    subst hs
    rcases Int.lt_trichotomy b 0 with h | h | h
    · exact .inr (Int.sign_eq_neg_one_of_neg h)
    · exact absurd h hb
    · exact .inl (Int.sign_eq_one_of_pos h)
  rw [fdiv_exact hg h1 (Int.ofNat_dvd_left.mpr (Nat.gcd_dvd_right _ _)), Rat.den_divInt, if_neg hb, hs, show b.sign * b = (b.natAbs : Int) from Int.sign_mul_self b]
  rw [show b.gcd t = Nat.gcd t.natAbs b.natAbs from Nat.gcd_comm _ _]
  exact (Int.natCast_ediv _ _).symm
theorem sm_gcd {t b : Int} {n : Nat} (hb : b ≠ 0) (h : Sm n b) : Sm n (Nat.gcd t.natAbs b.natAbs : Nat) := by
  unfold Sm at *
  have := Nat.le_of_dvd (by omega) (Nat.gcd_dvd_right t.natAbs b.natAbs)
  simp only [Int.natAbs_natCast]
  omega
theorem c_make (l : Nat) {t b : Int} {n : Nat} (hb : b ≠ 0) (h : Sm n b) (hn : n ≤ 9000) : (T.en (l + 3)).make "Amount" [.int t, .int b] = pur (amt (Rat.divInt t b)) := by
  have hn0 : 0 < n := by
    cases n with
    | zero => unfold Sm at h; simp at h; omega
    | succ n => omega
  have hg := sm_gcd (t := t) hb h
  have hg0 : (Nat.gcd t.natAbs b.natAbs : Int) ≠ 0 := by
    have : 0 < Nat.gcd t.natAbs b.natAbs := Nat.gcd_pos_of_pos_right _ (by omega)
    omega
  rw [kBAmount___init__ (l + 1) (by simp) (by simp)]
  show _ = pur (Dat.ins "Amount" [("top", .int (Rat.divInt t b).num), ("bottom", .int (Rat.divInt t b).den)])
  rw [← num_init (t := t) hb rfl, ← den_init (t := t) hb rfl]
  by_cases h0 : b < 0
  · have hsg : b.sign = -1 := Int.sign_eq_neg_one_of_neg h0
    have hm : mulOk (-1) (Nat.gcd t.natAbs b.natAbs : Nat) = true := by
      unfold mulOk Zw.small64; simp
    have hd : ∀ i, divOk i (-(Nat.gcd t.natAbs b.natAbs : Nat)) = true := fun i => Sm.divOk (n := n) hg.neg hn hn0 (by omega)
    refine in_pur rfl fun cs => ?_
    simp [BAmount___init__, BAmount___init___f0, dAmount___init__, h0, hb, z_mul _ _ _ hm, z_div _ _ _ (hd _), putD, hsg]
    decide +kernel
  · have hsg : b.sign = 1 := Int.sign_eq_one_of_pos (by omega)
    have hm : mulOk 1 (Nat.gcd t.natAbs b.natAbs : Nat) = true := by
      unfold mulOk Zw.small64; simp
    have hd : ∀ i, divOk i (Nat.gcd t.natAbs b.natAbs : Nat) = true := fun i => Sm.divOk (n := n) hg hn hn0 (by omega)
    refine in_pur rfl fun cs => ?_
    simp [BAmount___init__, BAmount___init___f0, dAmount___init__, h0, hb, z_mul _ _ _ hm, z_div _ _ _ (hd _), putD, hsg]
    decide +kernel
end Lw

namespace Lw
open PySem L2 Zw
section
variable (l : Nat) (fs gs : List (Str × Dat)) (i : Int)
theorem bAA_add : (T.en l).bin .Add (.ins "Amount" fs) (.ins "Amount" gs) = (T.en l).call "Amount.__add__" [.ins "Amount" fs, .ins "Amount" gs] := by
  obtain ⟨c, cl, h⟩ := en_form T l; rw [h]; kernel_rfl
theorem bAi_add : (T.en l).bin .Add (.ins "Amount" fs) (.int i) = (T.en l).call "Amount.__add__" [.ins "Amount" fs, .int i] := by
  obtain ⟨c, cl, h⟩ := en_form T l; rw [h]; kernel_rfl
theorem biA_add : (T.en l).bin .Add (.int i) (.ins "Amount" fs) = (T.en l).call "Amount.__radd__" [.ins "Amount" fs, .int i] := by
  obtain ⟨c, cl, h⟩ := en_form T l; rw [h]; kernel_rfl
theorem bAA_sub : (T.en l).bin .Sub (.ins "Amount" fs) (.ins "Amount" gs) = (T.en l).call "Amount.__sub__" [.ins "Amount" fs, .ins "Amount" gs] := by
  obtain ⟨c, cl, h⟩ := en_form T l; rw [h]; kernel_rfl
theorem bAi_sub : (T.en l).bin .Sub (.ins "Amount" fs) (.int i) = (T.en l).call "Amount.__sub__" [.ins "Amount" fs, .int i] := by
  obtain ⟨c, cl, h⟩ := en_form T l; rw [h]; kernel_rfl
theorem biA_sub : (T.en l).bin .Sub (.int i) (.ins "Amount" fs) = (T.en l).call "Amount.__rsub__" [.ins "Amount" fs, .int i] := by
  obtain ⟨c, cl, h⟩ := en_form T l; rw [h]; kernel_rfl
theorem bAA_mul : (T.en l).bin .Mult (.ins "Amount" fs) (.ins "Amount" gs) = (T.en l).call "Amount.__mul__" [.ins "Amount" fs, .ins "Amount" gs] := by
  obtain ⟨c, cl, h⟩ := en_form T l; rw [h]; kernel_rfl
theorem bAi_mul : (T.en l).bin .Mult (.ins "Amount" fs) (.int i) = (T.en l).call "Amount.__mul__" [.ins "Amount" fs, .int i] := by
  obtain ⟨c, cl, h⟩ := en_form T l; rw [h]; kernel_rfl
theorem biA_mul : (T.en l).bin .Mult (.int i) (.ins "Amount" fs) = (T.en l).call "Amount.__rmul__" [.ins "Amount" fs, .int i] := by
  obtain ⟨c, cl, h⟩ := en_form T l; rw [h]; kernel_rfl
theorem bAA_floordiv : (T.en l).bin .FloorDiv (.ins "Amount" fs) (.ins "Amount" gs) = (T.en l).call "Amount.__floordiv__" [.ins "Amount" fs, .ins "Amount" gs] := by
  obtain ⟨c, cl, h⟩ := en_form T l; rw [h]; kernel_rfl
theorem bAi_floordiv : (T.en l).bin .FloorDiv (.ins "Amount" fs) (.int i) = (T.en l).call "Amount.__floordiv__" [.ins "Amount" fs, .int i] := by
  obtain ⟨c, cl, h⟩ := en_form T l; rw [h]; kernel_rfl
theorem biA_floordiv : (T.en l).bin .FloorDiv (.int i) (.ins "Amount" fs) = (T.en l).call "Amount.__rfloordiv__" [.ins "Amount" fs, .int i] := by
  obtain ⟨c, cl, h⟩ := en_form T l; rw [h]; kernel_rfl
theorem bAA_mod : (T.en l).bin .Mod (.ins "Amount" fs) (.ins "Amount" gs) = (T.en l).call "Amount.__mod__" [.ins "Amount" fs, .ins "Amount" gs] := by
  obtain ⟨c, cl, h⟩ := en_form T l; rw [h]; kernel_rfl
theorem bAi_mod : (T.en l).bin .Mod (.ins "Amount" fs) (.int i) = (T.en l).call "Amount.__mod__" [.ins "Amount" fs, .int i] := by
  obtain ⟨c, cl, h⟩ := en_form T l; rw [h]; kernel_rfl
theorem biA_mod : (T.en l).bin .Mod (.int i) (.ins "Amount" fs) = (T.en l).call "Amount.__rmod__" [.ins "Amount" fs, .int i] := by
  obtain ⟨c, cl, h⟩ := en_form T l; rw [h]; kernel_rfl
@[simp] theorem mth_is_number (ma : M (List Dat)) : (T.en l).mth "is_number" ma (.cls "Amount") = bnd ma ((T.en l).call "Amount.is_number") := by
  obtain ⟨c, cl, h⟩ := en_form T l; rw [h]; kernel_rfl
@[simp] theorem mth_of (ma : M (List Dat)) : (T.en l).mth "of" ma (.cls "Amount") = bnd ma ((T.en l).call "Amount.of") := by
  obtain ⟨c, cl, h⟩ := en_form T l; rw [h]; kernel_rfl
@[simp] theorem mth_total (ma : M (List Dat)) : (T.en l).mth "total" ma (.cls "Amount") = bnd ma ((T.en l).call "Amount.total") := by
  obtain ⟨c, cl, h⟩ := en_form T l; rw [h]; kernel_rfl
@[simp] theorem mth_read (ma : M (List Dat)) : (T.en l).mth "read" ma (.cls "Amount") = bnd ma fun ds => (T.en l).call "Amount.read" (.cls "Amount" :: ds) := by
  obtain ⟨c, cl, h⟩ := en_form T l; rw [h]; kernel_rfl
@[simp] theorem mth_over (ma : M (List Dat)) (a b : Dat) : (T.en l).mth "over" ma (.ins "Amount" [("top", a), ("bottom", b)]) = bnd ma fun ds => (T.en l).call "Amount.over" (.ins "Amount" [("top", a), ("bottom", b)] :: ds) := by
  obtain ⟨c, cl, h⟩ := en_form T l; rw [h]; kernel_rfl
theorem una_neg : (T.en l).una .USub (.ins "Amount" fs) = (T.en l).call "Amount.__neg__" [.ins "Amount" fs] := by
  obtain ⟨c, cl, h⟩ := en_form T l; rw [h]; kernel_rfl
theorem abs_A : runR (orR rAbsI ((T.en l).rUna "__abs__")) [.ins "Amount" fs] = (T.en l).call "Amount.__abs__" [.ins "Amount" fs] := by
  obtain ⟨c, cl, h⟩ := en_form T l; rw [h]; kernel_rfl
theorem tru_A {b : Bool} (h : (T.en l).call "Amount.__bool__" [.ins "Amount" fs] = pur (.bl b)) : (T.en l).tru (.ins "Amount" fs) = pur b := by
  have e : (T.en l).tru (.ins "Amount" fs) = bnd ((T.en l).call "Amount.__bool__" [.ins "Amount" fs]) fun r => match r with | .bl b => pur b | _ => fail := by
    obtain ⟨c, cl, h⟩ := en_form T l; rw [h]; kernel_rfl
  rw [e, h]; rfl
theorem str_A {z : Str} (h : (T.en l).call "Amount.__str__" [.ins "Amount" fs] = pur (.str z)) : runR (orR rStrI (T.en l).rStrO) [.ins "Amount" fs] = pur (.str z) := by
  have e : runR (orR rStrI (T.en l).rStrO) [.ins "Amount" fs] = strM ((T.en l).call "Amount.__str__" [.ins "Amount" fs]) := by
    obtain ⟨c, cl, h⟩ := en_form T l; rw [h]; kernel_rfl
  rw [e, h]; rfl
theorem prop_whole {b : Bool} {x y : Dat} (h : (T.en l).call "Amount.is_whole" [.ins "Amount" [("top", x), ("bottom", y)]] = pur (.bl b)) : (T.en l).getX (.ins "Amount" [("top", x), ("bottom", y)]) "is_whole" = pur (.bl b) := by
  have e : (T.en l).getX (.ins "Amount" [("top", x), ("bottom", y)]) "is_whole" = calm ((T.en l).call "Amount.is_whole" [.ins "Amount" [("top", x), ("bottom", y)]]) := by
    obtain ⟨c, cl, h⟩ := en_form T l; rw [h]; kernel_rfl
  rw [e, h]; rfl
theorem cAA_lt {d : Dat} (h : (T.en l).call "Amount.__lt__" [.ins "Amount" fs, .ins "Amount" gs] = pur d) : (T.en l).cmp .Lt (.ins "Amount" fs) (.ins "Amount" gs) = pur d := by
  have e : ∃ f, (T.en l).cmp .Lt (.ins "Amount" fs) (.ins "Amount" gs) = orElseM (bnd ((T.en l).call "Amount.__lt__" [.ins "Amount" fs, .ins "Amount" gs]) fun r => pur (some r)) f := by
    obtain ⟨c, cl, h⟩ := en_form T l; rw [h]; exact ⟨orFail ((T.enOf c cl).tryD (cmpInfo .Lt).2.2 (.ins "Amount" gs) (.ins "Amount" fs)), by kernel_rfl⟩
  obtain ⟨f, e⟩ := e
  rw [e, h]; rfl
theorem cAi_lt {d : Dat} (h : (T.en l).call "Amount.__lt__" [.ins "Amount" fs, .int i] = pur d) : (T.en l).cmp .Lt (.ins "Amount" fs) (.int i) = pur d := by
  have e : ∃ f, (T.en l).cmp .Lt (.ins "Amount" fs) (.int i) = orElseM (bnd ((T.en l).call "Amount.__lt__" [.ins "Amount" fs, .int i]) fun r => pur (some r)) f := by
    obtain ⟨c, cl, h⟩ := en_form T l; rw [h]; exact ⟨orFail ((T.enOf c cl).tryD (cmpInfo .Lt).2.2 (.int i) (.ins "Amount" fs)), by kernel_rfl⟩
  obtain ⟨f, e⟩ := e
  rw [e, h]; rfl
theorem cAA_le {d : Dat} (h : (T.en l).call "Amount.__le__" [.ins "Amount" fs, .ins "Amount" gs] = pur d) : (T.en l).cmp .LtE (.ins "Amount" fs) (.ins "Amount" gs) = pur d := by
  have e : ∃ f, (T.en l).cmp .LtE (.ins "Amount" fs) (.ins "Amount" gs) = orElseM (bnd ((T.en l).call "Amount.__le__" [.ins "Amount" fs, .ins "Amount" gs]) fun r => pur (some r)) f := by
    obtain ⟨c, cl, h⟩ := en_form T l; rw [h]; exact ⟨orFail ((T.enOf c cl).tryD (cmpInfo .LtE).2.2 (.ins "Amount" gs) (.ins "Amount" fs)), by kernel_rfl⟩
  obtain ⟨f, e⟩ := e
  rw [e, h]; rfl
theorem cAi_le {d : Dat} (h : (T.en l).call "Amount.__le__" [.ins "Amount" fs, .int i] = pur d) : (T.en l).cmp .LtE (.ins "Amount" fs) (.int i) = pur d := by
  have e : ∃ f, (T.en l).cmp .LtE (.ins "Amount" fs) (.int i) = orElseM (bnd ((T.en l).call "Amount.__le__" [.ins "Amount" fs, .int i]) fun r => pur (some r)) f := by
    obtain ⟨c, cl, h⟩ := en_form T l; rw [h]; exact ⟨orFail ((T.enOf c cl).tryD (cmpInfo .LtE).2.2 (.int i) (.ins "Amount" fs)), by kernel_rfl⟩
  obtain ⟨f, e⟩ := e
  rw [e, h]; rfl
theorem cAA_gt {d : Dat} (h : (T.en l).call "Amount.__gt__" [.ins "Amount" fs, .ins "Amount" gs] = pur d) : (T.en l).cmp .Gt (.ins "Amount" fs) (.ins "Amount" gs) = pur d := by
  have e : ∃ f, (T.en l).cmp .Gt (.ins "Amount" fs) (.ins "Amount" gs) = orElseM (bnd ((T.en l).call "Amount.__gt__" [.ins "Amount" fs, .ins "Amount" gs]) fun r => pur (some r)) f := by
    obtain ⟨c, cl, h⟩ := en_form T l; rw [h]; exact ⟨orFail ((T.enOf c cl).tryD (cmpInfo .Gt).2.2 (.ins "Amount" gs) (.ins "Amount" fs)), by kernel_rfl⟩
  obtain ⟨f, e⟩ := e
  rw [e, h]; rfl
theorem cAi_gt {d : Dat} (h : (T.en l).call "Amount.__gt__" [.ins "Amount" fs, .int i] = pur d) : (T.en l).cmp .Gt (.ins "Amount" fs) (.int i) = pur d := by
  have e : ∃ f, (T.en l).cmp .Gt (.ins "Amount" fs) (.int i) = orElseM (bnd ((T.en l).call "Amount.__gt__" [.ins "Amount" fs, .int i]) fun r => pur (some r)) f := by
    obtain ⟨c, cl, h⟩ := en_form T l; rw [h]; exact ⟨orFail ((T.enOf c cl).tryD (cmpInfo .Gt).2.2 (.int i) (.ins "Amount" fs)), by kernel_rfl⟩
  obtain ⟨f, e⟩ := e
  rw [e, h]; rfl
theorem cAA_ge {d : Dat} (h : (T.en l).call "Amount.__ge__" [.ins "Amount" fs, .ins "Amount" gs] = pur d) : (T.en l).cmp .GtE (.ins "Amount" fs) (.ins "Amount" gs) = pur d := by
  have e : ∃ f, (T.en l).cmp .GtE (.ins "Amount" fs) (.ins "Amount" gs) = orElseM (bnd ((T.en l).call "Amount.__ge__" [.ins "Amount" fs, .ins "Amount" gs]) fun r => pur (some r)) f := by
    obtain ⟨c, cl, h⟩ := en_form T l; rw [h]; exact ⟨orFail ((T.enOf c cl).tryD (cmpInfo .GtE).2.2 (.ins "Amount" gs) (.ins "Amount" fs)), by kernel_rfl⟩
  obtain ⟨f, e⟩ := e
  rw [e, h]; rfl
theorem cAi_ge {d : Dat} (h : (T.en l).call "Amount.__ge__" [.ins "Amount" fs, .int i] = pur d) : (T.en l).cmp .GtE (.ins "Amount" fs) (.int i) = pur d := by
  have e : ∃ f, (T.en l).cmp .GtE (.ins "Amount" fs) (.int i) = orElseM (bnd ((T.en l).call "Amount.__ge__" [.ins "Amount" fs, .int i]) fun r => pur (some r)) f := by
    obtain ⟨c, cl, h⟩ := en_form T l; rw [h]; exact ⟨orFail ((T.enOf c cl).tryD (cmpInfo .GtE).2.2 (.int i) (.ins "Amount" fs)), by kernel_rfl⟩
  obtain ⟨f, e⟩ := e
  rw [e, h]; rfl
theorem cAA_eq {d : Dat} (h : (T.en l).call "Amount.__eq__" [.ins "Amount" fs, .ins "Amount" gs] = pur d) : (T.en l).cmp .Eq (.ins "Amount" fs) (.ins "Amount" gs) = pur d := by
  have e : ∃ f, (T.en l).cmp .Eq (.ins "Amount" fs) (.ins "Amount" gs) = orElseM (bnd ((T.en l).call "Amount.__eq__" [.ins "Amount" fs, .ins "Amount" gs]) fun r => pur (some r)) f := by
    obtain ⟨c, cl, h⟩ := en_form T l; rw [h]; exact ⟨orFail ((T.enOf c cl).tryD (cmpInfo .Eq).2.2 (.ins "Amount" gs) (.ins "Amount" fs)), by kernel_rfl⟩
  obtain ⟨f, e⟩ := e
  rw [e, h]; rfl
theorem cAi_eq {d : Dat} (h : (T.en l).call "Amount.__eq__" [.ins "Amount" fs, .int i] = pur d) : (T.en l).cmp .Eq (.ins "Amount" fs) (.int i) = pur d := by
  have e : ∃ f, (T.en l).cmp .Eq (.ins "Amount" fs) (.int i) = orElseM (bnd ((T.en l).call "Amount.__eq__" [.ins "Amount" fs, .int i]) fun r => pur (some r)) f := by
    obtain ⟨c, cl, h⟩ := en_form T l; rw [h]; exact ⟨orFail ((T.enOf c cl).tryD (cmpInfo .Eq).2.2 (.int i) (.ins "Amount" fs)), by kernel_rfl⟩
  obtain ⟨f, e⟩ := e
  rw [e, h]; rfl
end
end Lw

namespace Lw
open PySem L2 Zw
/-! sizes of fractions -/
def Sq (n : Nat) (q : Rat) : Prop := Sm n q.num ∧ Sm n (q.den : Int)
theorem Sq.pos {n : Nat} {q : Rat} (h : Sq n q) : 0 < n := by
  have h2 := h.2
  cases n with
  | zero => unfold Sm at h2; have := q.den_pos; simp at h2; omega
  | succ n => omega
theorem Sq.mono {n m : Nat} {q : Rat} (h : Sq n q) (l : n ≤ m) : Sq m q := ⟨h.1.mono l, h.2.mono l⟩
theorem den_ne (q : Rat) : (q.den : Int) ≠ 0 := by have := q.den_pos; omega
theorem sq_div {t b : Int} {n : Nat} (h1 : Sm n t) (h2 : Sm n b) (hn : 0 < n) : Sq n (Rat.divInt t b) := by
  by_cases hb : b = 0
  · subst hb
    rw [Rat.divInt_zero]
    exact ⟨by unfold Sm; simp; exact Nat.pow_pos (by decide), by
      unfold Sm
      have : 2 ^ 1 ≤ 2 ^ n := Nat.pow_le_pow_right (by decide) hn
      simp
      omega⟩
  · refine ⟨?_, ?_⟩
    · unfold Sm at *
      rw [Rat.num_divInt]
      have a : (b.sign * t / (b.gcd t : Int)).natAbs ≤ (b.sign * t).natAbs := Int.natAbs_ediv_le_natAbs _ _
      rw [Int.natAbs_mul, Int.natAbs_sign_of_ne_zero hb, Nat.one_mul] at a
      omega
    · unfold Sm at *
      rw [Rat.den_divInt, if_neg hb]
      have := Nat.div_le_self b.natAbs (b.gcd t)
      simp only [Int.natAbs_natCast]
      omega
theorem rat_add (q r : Rat) : q + r = Rat.divInt (q.num * r.den + r.num * q.den) (q.den * r.den) := by
  rw [← Rat.divInt_add_divInt _ _ (den_ne q) (den_ne r), Rat.num_divInt_den, Rat.num_divInt_den]
theorem rat_sub (q r : Rat) : q - r = Rat.divInt (q.num * r.den - r.num * q.den) (q.den * r.den) := by
  rw [← Rat.divInt_sub_divInt _ _ (den_ne q) (den_ne r), Rat.num_divInt_den, Rat.num_divInt_den]
theorem rat_mul (q r : Rat) : q * r = Rat.divInt (q.num * r.num) (q.den * r.den) := by
  rw [← Rat.divInt_mul_divInt, Rat.num_divInt_den, Rat.num_divInt_den]
theorem Sq.add {n m : Nat} {q r : Rat} (h : Sq n q) (h' : Sq m r) : Sq (n + m + 1) (q + r) := by
  have := h.pos; have := h'.pos
  rw [rat_add]
  exact sq_div ((h.1.mul h'.2).add1 ((h'.1.mul h.2).mono (by omega))) ((h.2.mul h'.2).mono (by omega)) (by omega)
theorem Sq.sub {n m : Nat} {q r : Rat} (h : Sq n q) (h' : Sq m r) : Sq (n + m + 1) (q - r) := by
  have := h.pos; have := h'.pos
  rw [rat_sub]
  exact sq_div ((h.1.mul h'.2).sub1 ((h'.1.mul h.2).mono (by omega))) ((h.2.mul h'.2).mono (by omega)) (by omega)
theorem Sq.mul {n m : Nat} {q r : Rat} (h : Sq n q) (h' : Sq m r) : Sq (n + m) (q * r) := by
  have := h.pos; have := h'.pos
  rw [rat_mul]
  exact sq_div (h.1.mul h'.1) (h.2.mul h'.2) (by omega)
theorem Sq.int {n : Nat} {i : Int} (h : Sm n i) (hn : 0 < n) : Sq n (i : Rat) := ⟨by simpa using h, by
  unfold Sm
  have : 2 ^ 1 ≤ 2 ^ n := Nat.pow_le_pow_right (by decide) hn
  simp
  omega⟩
theorem Sq.neg {n : Nat} {q : Rat} (h : Sq n q) : Sq n (-q) := ⟨by simpa using h.1.neg, by simpa using h.2⟩
/-- a number as the program takes it -/
inductive Nm : Dat → Rat → Prop
  | amt (q : Rat) : Nm (Lw.amt q) q
  | int (i : Int) : Nm (.int i) (i : Rat)
section
variable (l : Nat) {d : Dat} {q r : Rat} {n m : Nat}
theorem c_parts (h : Nm d r) : (T.en (l + 2)).call "parts_of" [d] = pur (.tup [.int r.num, .int r.den]) := by
  cases h with
  | amt => exact c_parts_A l _ _
  | int i => rw [c_parts_i]; simp
theorem c_number (h : Nm d r) : (T.en (l + 3)).call "Amount.is_number" [d] = pur (.bl true) := by
  rw [kBAmount_is_number (l + 1) rfl]
  cases h with
  | amt => exact fn_pur rfl fun cs => by simp [BAmount_is_number]
  | int i => exact fn_pur rfl fun cs => by simp [BAmount_is_number]
theorem c_make1 (i : Int) : (T.en (l + 3)).make "Amount" [.int i] = pur (amt (i : Rat)) := by
  have h := c_make l (t := i) (b := 1) (n := 1) (by decide) (by unfold Sm; decide) (by decide)
  rw [kBAmount___init__ (l + 1) (by simp) (by simp)] at h ⊢
  have e : Rat.divInt i 1 = (i : Rat) := by rw [← Rat.num_divInt_den (i : Rat)]; simp
  rw [e] at h
  exact h
theorem c_of (h : Nm d r) : (T.en (l + 4)).call "Amount.of" [d] = pur (amt r) := by
  rw [kBAmount_of (l + 2) rfl]
  cases h with
  | amt => exact fn_pur rfl fun cs => by simp [BAmount_of]
  | int i => exact fn_pur rfl fun cs => by simp [BAmount_of, c_make1 l]
theorem c_add (h : Nm d r) (sq : Sq n q) (sr : Sq m r) (hs : n + m ≤ 9000) : (T.en (l + 4)).call "Amount.__add__" [amt q, d] = pur (amt (q + r)) := by
  have := sq.pos; have := sr.pos
  rw [kBAmount___add__ (l + 2) rfl, rat_add]
  exact fn_pur rfl fun cs => by
    simp [BAmount___add__, c_number l h, c_parts (l + 1) h, z_mul _ _ _ (sq.1.mulOk sr.2 (by omega) (by omega) (by omega)), z_mul _ _ _ (sr.1.mulOk sq.2 (by omega) (by omega) (by omega)), z_mul _ _ _ (sq.2.mulOk sr.2 (by omega) (by omega) (by omega)), c_make l (Int.mul_ne_zero (den_ne q) (den_ne r)) (sq.2.mul sr.2) hs]
theorem c_sub (h : Nm d r) (sq : Sq n q) (sr : Sq m r) (hs : n + m ≤ 9000) : (T.en (l + 4)).call "Amount.__sub__" [amt q, d] = pur (amt (q - r)) := by
  have := sq.pos; have := sr.pos
  rw [kBAmount___sub__ (l + 2) rfl, rat_sub]
  exact fn_pur rfl fun cs => by
    simp [BAmount___sub__, c_number l h, c_parts (l + 1) h, z_mul _ _ _ (sq.1.mulOk sr.2 (by omega) (by omega) (by omega)), z_mul _ _ _ (sr.1.mulOk sq.2 (by omega) (by omega) (by omega)), z_mul _ _ _ (sq.2.mulOk sr.2 (by omega) (by omega) (by omega)), c_make l (Int.mul_ne_zero (den_ne q) (den_ne r)) (sq.2.mul sr.2) hs]
theorem c_mul (h : Nm d r) (sq : Sq n q) (sr : Sq m r) (hs : n + m ≤ 9000) : (T.en (l + 4)).call "Amount.__mul__" [amt q, d] = pur (amt (q * r)) := by
  have := sq.pos; have := sr.pos
  rw [kBAmount___mul__ (l + 2) rfl, rat_mul]
  exact fn_pur rfl fun cs => by
    simp [BAmount___mul__, c_number l h, c_parts (l + 1) h, z_mul _ _ _ (sq.1.mulOk sr.1 (by omega) (by omega) (by omega)), z_mul _ _ _ (sq.2.mulOk sr.2 (by omega) (by omega) (by omega)), c_make l (Int.mul_ne_zero (den_ne q) (den_ne r)) (sq.2.mul sr.2) hs]
end
end Lw

namespace Lw
open PySem L2 Zw
theorem floor_pos {a b : Int} (hb : 0 < b) : (Rat.divInt a b).floor = a.fdiv b := by
  have e := Rat.divInt_num_den (n := a) (d := b) (n' := (Rat.divInt a b).num) (d' := (Rat.divInt a b).den) (z' := (Rat.divInt a b).den_nz) (c := (Rat.divInt a b).reduced) (by omega) rfl
  obtain ⟨m, h0, h1, h2⟩ := e
  have hd := (Rat.divInt a b).den_pos
  have hm : 0 < m := by
    rcases Int.lt_trichotomy m 0 with h | h | h
    · have := Int.mul_neg_of_neg_of_pos h (show (0 : Int) < ((Rat.divInt a b).den : Int) by omega)
      rw [Int.mul_comm] at this
      omega
    · exact absurd h h0
    · exact h
  rw [Rat.floor_def, Int.fdiv_eq_ediv_of_nonneg _ (by omega)]
  generalize (Rat.divInt a b).num = x at *
  generalize (Rat.divInt a b).den = y at *
  rw [h1, h2]
  first | exact (Int.mul_ediv_mul_of_pos _ _ hm).symm | (rw [Int.mul_comm x m, Int.mul_comm (y : Int) m]; exact (Int.mul_ediv_mul_of_pos _ _ hm).symm)
theorem floor_div {a b : Int} (hb : b ≠ 0) : (Rat.divInt a b).floor = a.fdiv b := by
  rcases Int.lt_trichotomy b 0 with h | h | h
  · rw [← Rat.neg_divInt_neg, ← Int.neg_fdiv_neg]
    exact floor_pos (by omega)
  · exact absurd h hb
  · exact floor_pos h
theorem rat_div (q r : Rat) : q / r = Rat.divInt (q.num * r.den) (q.den * r.num) := by
  rw [Rat.div_def, Rat.inv_def, ← Rat.divInt_mul_divInt, Rat.num_divInt_den]
theorem num_ne {r : Rat} (h : r ≠ 0) : r.num ≠ 0 := fun z => h (Rat.num_eq_zero.mp z)
theorem Sq.div {n m : Nat} {q r : Rat} (h : Sq n q) (h' : Sq m r) : Sq (n + m) (q / r) := by
  have := h.pos; have := h'.pos
  rw [rat_div]
  exact sq_div (h.1.mul h'.2) (h.2.mul h'.1) (by omega)
theorem sm_floor {n : Nat} {q : Rat} (h : Sq n q) : Sm (n + 1) q.floor := by
  have h1 := h.1
  unfold Sm at *
  rw [Rat.floor_def]
  have := Int.natAbs_ediv_le_natAbs q.num q.den
  rw [Nat.pow_succ]
  omega
section
variable (l : Nat) {d : Dat} {q r : Rat} {n m : Nat}
theorem c_fdiv (h : Nm d r) (sq : Sq n q) (sr : Sq m r) (hs : n + m ≤ 9000) (hr : r ≠ 0) : (T.en (l + 4)).call "Amount.__floordiv__" [amt q, d] = pur (.int (q / r).floor) := by
  have := sq.pos; have := sr.pos
  rw [kBAmount___floordiv__ (l + 2) rfl, rat_div, floor_div (Int.mul_ne_zero (den_ne q) (num_ne hr))]
  exact fn_pur rfl fun cs => by
    simp [BAmount___floordiv__, c_parts (l + 1) h, num_ne hr, z_mul _ _ _ (sq.1.mulOk sr.2 (by omega) (by omega) (by omega)), z_mul _ _ _ (sq.2.mulOk sr.1 (by omega) (by omega) (by omega)), z_div _ _ _ ((sq.2.mul sr.1).divOk hs (by omega) (Int.mul_ne_zero (den_ne q) (num_ne hr)))]
theorem c_neg (sq : Sq n q) (hs : n ≤ 9000) : (T.en (l + 4)).call "Amount.__neg__" [amt q] = pur (amt (-q)) := by
  rw [kBAmount___neg__ (l + 2) rfl]
  have e : Rat.divInt (-q.num) q.den = -q := by rw [← Rat.neg_divInt, Rat.num_divInt_den]
  exact fn_pur rfl fun cs => by
    simp [BAmount___neg__, c_make l (den_ne q) sq.2 hs, e]
theorem rat_abs (q : Rat) : Rat.divInt (q.num.natAbs : Int) q.den = q.abs := by
  unfold Rat.abs
  by_cases h : 0 ≤ q
  · have : 0 ≤ q.num := Rat.num_nonneg.mpr h
    rw [if_pos h, show ((q.num.natAbs : Nat) : Int) = q.num by omega, Rat.num_divInt_den]
  · have : ¬ 0 ≤ q.num := fun z => h (Rat.num_nonneg.mp z)
    rw [if_neg h, show ((q.num.natAbs : Nat) : Int) = -q.num by omega, ← Rat.neg_divInt, Rat.num_divInt_den]
theorem rat_abs' (q : Rat) : mkRat (q.num.natAbs : Int) q.den = q.abs := by rw [← rat_abs, Rat.divInt_ofNat]
theorem c_abs (sq : Sq n q) (hs : n ≤ 9000) : (T.en (l + 4)).call "Amount.__abs__" [amt q] = pur (amt q.abs) := by
  rw [kBAmount___abs__ (l + 2) rfl]
  exact fn_pur rfl fun cs => by
    simp [BAmount___abs__, c_make l (den_ne q) sq.2 hs, rat_abs']
theorem c_lt (h : Nm d r) (sq : Sq n q) (sr : Sq m r) (hs : n + m ≤ 9000) : (T.en (l + 3)).call "Amount.__lt__" [amt q, d] = pur (.bl (decide (q < r))) := by
  have := sq.pos; have := sr.pos
  rw [kBAmount___lt__ (l + 1) rfl]
  exact fn_pur rfl fun cs => by
    simp [BAmount___lt__, c_parts l h, z_mul _ _ _ (sq.1.mulOk sr.2 (by omega) (by omega) (by omega)), z_mul _ _ _ (sr.1.mulOk sq.2 (by omega) (by omega) (by omega)), Rat.lt_iff]
theorem c_le (h : Nm d r) (sq : Sq n q) (sr : Sq m r) (hs : n + m ≤ 9000) : (T.en (l + 3)).call "Amount.__le__" [amt q, d] = pur (.bl (decide (q ≤ r))) := by
  have := sq.pos; have := sr.pos
  rw [kBAmount___le__ (l + 1) rfl]
  exact fn_pur rfl fun cs => by
    simp [BAmount___le__, c_parts l h, z_mul _ _ _ (sq.1.mulOk sr.2 (by omega) (by omega) (by omega)), z_mul _ _ _ (sr.1.mulOk sq.2 (by omega) (by omega) (by omega)), Rat.le_iff]
theorem c_gt (h : Nm d r) (sq : Sq n q) (sr : Sq m r) (hs : n + m ≤ 9000) : (T.en (l + 3)).call "Amount.__gt__" [amt q, d] = pur (.bl (decide (r < q))) := by
  have := sq.pos; have := sr.pos
  rw [kBAmount___gt__ (l + 1) rfl]
  exact fn_pur rfl fun cs => by
    simp [BAmount___gt__, c_parts l h, z_mul _ _ _ (sq.1.mulOk sr.2 (by omega) (by omega) (by omega)), z_mul _ _ _ (sr.1.mulOk sq.2 (by omega) (by omega) (by omega)), Rat.lt_iff]
theorem c_ge (h : Nm d r) (sq : Sq n q) (sr : Sq m r) (hs : n + m ≤ 9000) : (T.en (l + 3)).call "Amount.__ge__" [amt q, d] = pur (.bl (decide (r ≤ q))) := by
  have := sq.pos; have := sr.pos
  rw [kBAmount___ge__ (l + 1) rfl]
  exact fn_pur rfl fun cs => by
    simp [BAmount___ge__, c_parts l h, z_mul _ _ _ (sq.1.mulOk sr.2 (by omega) (by omega) (by omega)), z_mul _ _ _ (sr.1.mulOk sq.2 (by omega) (by omega) (by omega)), Rat.le_iff]
theorem c_bool : (T.en (l + 2)).call "Amount.__bool__" [amt q] = pur (.bl (decide (q ≠ 0))) := by
  rw [kBAmount___bool__ l rfl]
  have e : (q.num = 0) ↔ (q = 0) := Rat.num_eq_zero
  exact fn_pur rfl fun cs => by
    simp [BAmount___bool__, e]
end
end Lw

namespace Lw
open PySem L2 Zw TL
section
variable (l : Nat) {d : Dat} {q r : Rat} {n m : Nat}
theorem z_eqt (E : En) (a b c d : Int) : E.cmp .Eq (.tup [.int a, .int b]) (.tup [.int c, .int d]) = pur (.bl (a == c && (b == d && true))) := by kernel_rfl
theorem c_eq (h : Nm d r) : (T.en (l + 4)).call "Amount.__eq__" [amt q, d] = pur (.bl (decide (q = r))) := by
  rw [kBAmount___eq__ (l + 2) rfl]
  have e : decide (q = r) = (q.num == r.num && (((q.den : Int) == (r.den : Int)) && true)) := by
    rw [Bool.eq_iff_iff]
    simp only [decide_eq_true_eq, Bool.and_true, Bool.and_eq_true, beq_iff_eq, Int.natCast_inj]
    exact ⟨fun z => by rw [z]; exact ⟨rfl, rfl⟩, fun z => Rat.ext z.1 z.2⟩
  exact fn_pur rfl fun cs => by
    simp [BAmount___eq__, c_number l h, c_parts (l + 1) h, z_eqt, e]
theorem c_mod (h : Nm d r) (sq : Sq n q) (sr : Sq m r) (hs : 2 * (n + m) ≤ 8000) (hr : r ≠ 0) : (T.en (l + 6)).call "Amount.__mod__" [amt q, d] = pur (amt (q - r * ((q / r).floor : Int))) := by
  rw [kBAmount___mod__ (l + 4) rfl]
  have := sq.pos; have := sr.pos
  have sf : Sq (n + m + 1) (((q / r).floor : Int) : Rat) := Sq.int (sm_floor (sq.div sr)) (by omega)
  have e1 : (T.en (l + 5)).bin .FloorDiv (amt q) d = pur (.int (q / r).floor) := by
    rw [← c_fdiv (l + 1) h sq sr (by omega) hr]
    cases h with
    | amt => exact bAA_floordiv _ _ _
    | int i => exact bAi_floordiv _ _ _
  have e2 := c_mul (l + 1) (q := r) (.int (q / r).floor) sr sf (by omega)
  have e3 := c_sub (l + 1) (q := q) (.amt (r * ((q / r).floor : Int))) sq (sr.mul sf) (by omega)
  exact fn_pur rfl fun cs => by
    simp [BAmount___mod__, e1, c_of (l + 1) h, bAi_mul, e2, bAA_sub, e3]
end
end Lw

namespace Lw
open PySem L2 Zw TL
/-! ### operators of two numbers, one of them an amount -/
inductive Op : Dat → Rat → Dat → Rat → Prop
  | aa (q r : Rat) : Op (amt q) q (amt r) r
  | ai (q : Rat) (i : Int) : Op (amt q) q (.int i) (i : Rat)
  | ia (i : Int) (r : Rat) : Op (.int i) (i : Rat) (amt r) r
theorem Op.left {q r : Rat} {d : Dat} (h : Nm d r) : Op (amt q) q d r := by cases h <;> constructor
theorem Op.right {q r : Rat} {d : Dat} (h : Nm d r) : Op d r (amt q) q := by cases h <;> constructor
end Lw

namespace Lw
open PySem L2 Zw
/-! ### zeros -/
inductive Kn
  | fixed | still | walking | sliding | slidewalk
  deriving DecidableEq
def Kn.cls : Kn → Str
  | .fixed => "Fixed" | .still => "Still" | .walking => "Walking" | .sliding => "Sliding" | .slidewalk => "SlidingWalk"
def Kn.word : Kn → Str
  | .fixed => "fixed" | .still => "still" | .walking => "walking" | .sliding => "sliding" | .slidewalk => "slidewalk"
abbrev zr (k : Kn) (q : Rat) : Dat := .ins k.cls [("pace", amt q)]
theorem con_pur {n m : Nat} {B : MS} {d0 d : Dat} {ds : List Dat} (hl : ds.length + 1 = n) (h : ∀ cs, endIn (B ⟨envIn m d0 ds, cs⟩) = .ret d cs) (cs : List (Option Dat)) : runIn n m B (d0 :: ds) cs = .ret d cs := by
  unfold runIn
  dsimp only
  rw [if_pos hl, h cs]
theorem fld_pace (l : Nat) (k : Kn) : (T.en l).fld k.cls "pace" = true := by
  obtain ⟨c, cl, h⟩ := en_form T l; rw [h]; cases k <;> kernel_rfl
theorem put_pace (d e : Dat) : putD ("pace" : Str) e [(("pace" : Str), d)] = [(("pace" : Str), e)] := by kernel_rfl
theorem put_pace0 (e : Dat) : putD ("pace" : Str) e [] = [(("pace" : Str), e)] := by kernel_rfl
/-- Zero.__init__ on any of them -/
theorem n_zero (l : Nat) (k : Kn) (cs : List (Option Dat)) : runIn 1 1 (BZero___init__ (T.en (l + 3))) [.ins k.cls []] cs = .ret (zr k 0) cs := by
  refine con_pur rfl (fun cs => ?_) cs
  have m := c_make1 l 0
  rw [show (((0 : Int)) : Rat) = 0 from rfl] at m
  generalize (0 : Rat) = q at *
  simp [BZero___init__, m, envIn, fld_pace, put_pace0]
/-- one level of super().__init__() -/
theorem s_zero (l : Nat) {tab : List (Str × Str)} {k : Kn} {env : List Slot} {cs : List (Option Dat)} (h : tab.lookup k.cls = some "Zero") : superS (T.en (l + 4)) tab ⟨.slf (.ins k.cls []) :: env, cs⟩ = .nx ⟨.slf (zr k 0) :: env, cs⟩ :=
  z_super h (iBZero___init__ (l + 2)) rfl (n_zero l k cs)
theorem n_sliding (l : Nat) {k : Kn} (h : sSliding___init__.tab.lookup k.cls = some "Zero") (cs : List (Option Dat)) : runIn 1 1 (seqS (superS (T.en (l + 4)) sSliding___init__.tab) (BSliding___init__ (T.en (l + 4)))) [.ins k.cls []] cs = .ret (zr k 0) cs := by
  refine con_pur rfl (fun cs => ?_) cs
  have e := s_zero l (k := k) (tab := sSliding___init__.tab) (env := []) (cs := cs) h
  simp [envIn, e, BSliding___init__]
section
variable (l : Nat) {d : Dat} {q : Rat} {n : Nat}
theorem c_is_size (h : Nm d q) (sq : Sq n q) (hn : n ≤ 4000) : (T.en (l + 4)).call "is_size" [d] = pur (.bl (decide (0 ≤ q))) := by
  rw [kBis_size (l + 2) rfl]
  have c1 := c_number l h
  have s0 : Sq 1 (((0 : Int)) : Rat) := Sq.int (by unfold Sm; decide) (by omega)
  have z0 : (((0 : Int)) : Rat) = 0 := rfl
  cases h with
  | amt =>
    have c2 := cAi_lt _ _ _ (c_lt l (q := q) (.int 0) sq s0 (by omega))
    rw [z0] at c2
    have e : (!decide (q < 0)) = decide (0 ≤ q) := by
      rw [Bool.eq_iff_iff]; simp [Rat.not_lt]
    exact fn_pur rfl fun cs => by simp [Bis_size, c1, c2, En.notV, e]
  | int i =>
    have e : (!decide (i < 0)) = decide ((0 : Rat) ≤ (i : Rat)) := by
      rw [Bool.eq_iff_iff]
      simp only [Bool.not_eq_true', decide_eq_false_iff_not, decide_eq_true_eq, Int.not_lt]
      rw [← z0, Rat.intCast_le_intCast]
    exact fn_pur rfl fun cs => by simp [Bis_size, c1, En.notV, ← e]
end
end Lw

namespace Lw
open PySem L2 Zw
section
variable (l : Nat)
theorem mk_fixed : (T.en (l + 5)).make "Fixed" [] = pur (zr .fixed 0) := by
  rw [kBFixed___init__ (l + 3) (by simp) (by simp)]
  refine in_pur rfl fun cs => ?_
  have e := s_zero l (k := .fixed) (tab := sFixed___init__.tab) (env := []) (cs := cs) (by kernel_rfl)
  have e : superS (T.en (l + 4)) sFixed___init__.tab ⟨[.slf (.ins "Fixed" [])], cs⟩ = .nx ⟨[.slf (zr .fixed 0)], cs⟩ := e
  show endIn (seqS (superS (T.en (l + 4)) sFixed___init__.tab) (BFixed___init__ (T.en (l + 4))) ⟨[.slf (.ins "Fixed" [])], cs⟩) = _
  simp [e, BFixed___init__]
theorem mk_still : (T.en (l + 5)).make "Still" [] = pur (zr .still 0) := by
  rw [kBStill___init__ (l + 3) (by simp) (by simp)]
  refine in_pur rfl fun cs => ?_
  have e := s_zero l (k := .still) (tab := sStill___init__.tab) (env := []) (cs := cs) (by kernel_rfl)
  have e : superS (T.en (l + 4)) sStill___init__.tab ⟨[.slf (.ins "Still" [])], cs⟩ = .nx ⟨[.slf (zr .still 0)], cs⟩ := e
  show endIn (seqS (superS (T.en (l + 4)) sStill___init__.tab) (BStill___init__ (T.en (l + 4))) ⟨[.slf (.ins "Still" [])], cs⟩) = _
  simp [e, BStill___init__]
theorem mk_sliding : (T.en (l + 5)).make "Sliding" [] = pur (zr .sliding 0) := by
  rw [kBSliding___init__ (l + 3) (by simp) (by simp)]
  refine in_pur rfl fun cs => ?_
  have e := s_zero l (k := .sliding) (tab := sSliding___init__.tab) (env := []) (cs := cs) (by kernel_rfl)
  have e : superS (T.en (l + 4)) sSliding___init__.tab ⟨[.slf (.ins "Sliding" [])], cs⟩ = .nx ⟨[.slf (zr .sliding 0)], cs⟩ := e
  show endIn (seqS (superS (T.en (l + 4)) sSliding___init__.tab) (BSliding___init__ (T.en (l + 4))) ⟨[.slf (.ins "Sliding" [])], cs⟩) = _
  simp [e, BSliding___init__]
/-- what stands behind super().__init__() in the walking ones -/
theorem b_walk {d : Dat} {q p : Rat} {n : Nat} {k : Kn} (h : Nm d q) (sq : Sq n q) (hn : n ≤ 4000) (h0 : 0 ≤ q) (cs : List (Option Dat)) : BWalking___init__ (T.en (l + 4)) ⟨[.slf (zr k p), .val d], cs⟩ = .nx ⟨[.slf (zr k q), .val d], cs⟩ := by
  have c1 := c_is_size l h sq hn
  rw [decide_eq_true h0] at c1
  have c2 := c_of l h
  simp [BWalking___init__, c1, c2, fld_pace, put_pace]
theorem b_swalk {d : Dat} {q p : Rat} {n : Nat} {k : Kn} (h : Nm d q) (sq : Sq n q) (hn : n ≤ 4000) (h0 : 0 ≤ q) (cs : List (Option Dat)) : BSlidingWalk___init__ (T.en (l + 4)) ⟨[.slf (zr k p), .val d], cs⟩ = .nx ⟨[.slf (zr k q), .val d], cs⟩ := by
  have c1 := c_is_size l h sq hn
  rw [decide_eq_true h0] at c1
  have c2 := c_of l h
  simp [BSlidingWalk___init__, c1, c2, fld_pace, put_pace]
theorem mk_walking {d : Dat} {q : Rat} {n : Nat} (h : Nm d q) (sq : Sq n q) (hn : n ≤ 4000) (h0 : 0 ≤ q) : (T.en (l + 5)).make "Walking" [d] = pur (zr .walking q) := by
  rw [kBWalking___init__ (l + 3) (by simp) (by simp)]
  refine in_pur rfl fun cs => ?_
  have e := s_zero l (k := .walking) (tab := sWalking___init__.tab) (env := [.val d]) (cs := cs) (by kernel_rfl)
  have e : superS (T.en (l + 4)) sWalking___init__.tab ⟨[.slf (.ins "Walking" []), .val d], cs⟩ = .nx ⟨[.slf (zr .walking 0), .val d], cs⟩ := e
  have b := b_walk l (p := 0) (k := .walking) h sq hn h0 cs
  show endIn (seqS (superS (T.en (l + 4)) sWalking___init__.tab) (BWalking___init__ (T.en (l + 4))) ⟨[.slf (.ins "Walking" []), .val d], cs⟩) = _
  simp [e, b]
theorem n_walking (cs : List (Option Dat)) : runIn 2 2 (seqS (superS (T.en (l + 6)) sWalking___init__.tab) (BWalking___init__ (T.en (l + 6)))) [.ins Kn.slidewalk.cls [], .int 1] cs = .ret (zr .slidewalk 1) cs := by
  refine con_pur rfl (fun cs => ?_) cs
  have e : superS (T.en (l + 6)) sWalking___init__.tab ⟨[.slf (.ins Kn.slidewalk.cls []), .val (.int 1)], cs⟩ = .nx ⟨[.slf (zr .slidewalk 0), .val (.int 1)], cs⟩ :=
    z_super (by kernel_rfl) (iBSliding___init__ (l + 4)) rfl (n_sliding (l + 1) (k := .slidewalk) (by kernel_rfl) cs)
  have s1 : Sq 1 (((1 : Int)) : Rat) := Sq.int (by unfold Sm; decide) (by omega)
  have b := b_walk (l + 2) (p := 0) (k := .slidewalk) (Nm.int 1) s1 (by omega) (by decide) cs
  rw [show (((1 : Int)) : Rat) = 1 from rfl] at b
  show endIn (seqS (superS (T.en (l + 6)) sWalking___init__.tab) (BWalking___init__ (T.en (l + 6))) ⟨[.slf (.ins Kn.slidewalk.cls []), .val (.int 1)], cs⟩) = _
  simp [e, b]
theorem mk_slidewalk {d : Dat} {q : Rat} {n : Nat} (h : Nm d q) (sq : Sq n q) (hn : n ≤ 4000) (h0 : 0 ≤ q) : (T.en (l + 8)).make "SlidingWalk" [d] = pur (zr .slidewalk q) := by
  rw [kBSlidingWalk___init__ (l + 6) (by simp) (by simp)]
  refine in_pur rfl fun cs => ?_
  have e : superS (T.en (l + 7)) sSlidingWalk___init__.tab ⟨[.slf (.ins Kn.slidewalk.cls []), .val d], cs⟩ = .nx ⟨[.slf (zr .slidewalk 1), .val d], cs⟩ :=
    z_super (by kernel_rfl) (iBWalking___init__ (l + 5)) rfl (n_walking l cs)
  have b := b_swalk (l + 3) (p := 1) (k := .slidewalk) h sq hn h0 cs
  show endIn (seqS (superS (T.en (l + 7)) sSlidingWalk___init__.tab) (BSlidingWalk___init__ (T.en (l + 7))) ⟨[.slf (.ins Kn.slidewalk.cls []), .val d], cs⟩) = _
  simp [e, b]
end
end Lw

namespace Lw
open PySem L2 Zw
/-! ### what zeros tell -/
def Kn.slides : Kn → Bool
  | .sliding => true | .slidewalk => true | _ => false
def Kn.walks : Kn → Bool
  | .walking => true | .slidewalk => true | _ => false
def Kn.unknown : Kn → Bool
  | .fixed => false | _ => true
section
variable (l : Nat)
theorem g_word (k : Kn) (q : Rat) : (T.en l).getX (zr k q) "WORD" = pur (.str k.word) := by
  obtain ⟨c, cl, h⟩ := en_form T l; rw [h]; cases k <;> kernel_rfl
theorem g_pace (k : Kn) (q : Rat) : (T.en l).getX (zr k q) "pace" = pur (amt q) := by
  obtain ⟨c, cl, h⟩ := en_form T l; rw [h]; cases k <;> kernel_rfl
theorem c_unknown (k : Kn) (q : Rat) : (T.en (l + 2)).call "Zero.is_unknown" [zr k q] = pur (.bl k.unknown) := by
  rw [kBZero_is_unknown l rfl]
  have w := g_word (l + 1) k q
  have e : (T.en (l + 1)).cmp .NotEq (.str k.word) (.str "fixed") = pur (.bl k.unknown) := by cases k <;> kernel_rfl
  exact fn_pur rfl fun cs => by simp [BZero_is_unknown, w, e, -z_nes]
theorem c_slides (k : Kn) (q : Rat) : (T.en (l + 2)).call "Zero.slides" [zr k q] = pur (.bl k.slides) := by
  rw [kBZero_slides l rfl]
  have w := g_word (l + 1) k q
  have e : inn false (.str k.word) (.tup [.str "sliding", .str "slidewalk"]) = pur (.bl k.slides) := by cases k <;> kernel_rfl
  exact fn_pur rfl fun cs => by simp [BZero_slides, w, e]
theorem p_unknown (k : Kn) (q : Rat) : (T.en (l + 2)).getX (zr k q) "is_unknown" = pur (.bl k.unknown) := by
  have e : (T.en (l + 2)).getX (zr k q) "is_unknown" = calm ((T.en (l + 2)).call "Zero.is_unknown" [zr k q]) := by
    obtain ⟨c, cl, h⟩ := en_form T (l + 2); rw [h]; cases k <;> kernel_rfl
  rw [e, c_unknown]; rfl
theorem p_slides (k : Kn) (q : Rat) : (T.en (l + 2)).getX (zr k q) "slides" = pur (.bl k.slides) := by
  have e : (T.en (l + 2)).getX (zr k q) "slides" = calm ((T.en (l + 2)).call "Zero.slides" [zr k q]) := by
    obtain ⟨c, cl, h⟩ := en_form T (l + 2); rw [h]; cases k <;> kernel_rfl
  rw [e, c_slides]; rfl
/-- whether the one lets all that the other lets -/
def letsB (k : Kn) (q : Rat) (k' : Kn) (q' : Rat) : Bool := !k'.unknown || (k.unknown && decide (q' ≤ q) && (k.slides || !k'.slides))
theorem c_lets (k k' : Kn) {q q' : Rat} {n m : Nat} (sq : Sq n q) (sq' : Sq m q') (hs : n + m ≤ 9000) : (T.en (l + 4)).call "Zero.lets" [zr k q, zr k' q'] = pur (.bl (letsB k q k' q')) := by
  rw [kBZero_lets (l + 2) rfl]
  have u := p_unknown (l + 1) k q
  have u' := p_unknown (l + 1) k' q'
  have s := p_slides (l + 1) k q
  have s' := p_slides (l + 1) k' q'
  have g := g_pace (l + 3) k q
  have g' := g_pace (l + 3) k' q'
  have c := cAA_gt _ _ _ (c_gt l (q := q') (.amt q) sq' sq (by omega))
  have e : decide (q < q') = !decide (q' ≤ q) := by
    rw [Bool.eq_iff_iff]; simp [Rat.not_le]
  rw [e] at c
  unfold letsB
  generalize decide (q' ≤ q) = b at *
  generalize k.unknown = a1 at *
  generalize k'.unknown = a2 at *
  generalize k.slides = a3 at *
  generalize k'.slides = a4 at *
  refine fn_pur rfl fun cs => ?_
  cases a2 with
  | false => simp [BZero_lets, u']
  | true =>
    cases a1 with
    | false => simp [BZero_lets, u, u']
    | true =>
      cases b with
      | false => simp [BZero_lets, u, u', g, g', c]
      | true => cases a3 <;> cases a4 <;> simp [BZero_lets, u, u', g, g', c, s, s', En.notV]
theorem isi_zero (k : Kn) (q : Rat) : (T.en l).isi [zr k q, .cls "Zero"] = pur (.bl true) := by
  obtain ⟨c, cl, h⟩ := en_form T l; rw [h]; cases k <;> kernel_rfl
theorem mth_lets (ma : M (List Dat)) (k : Kn) (q : Rat) : (T.en l).mth "lets" ma (zr k q) = bnd ma fun ds => (T.en l).call "Zero.lets" (zr k q :: ds) := by
  obtain ⟨c, cl, h⟩ := en_form T l; rw [h]; cases k <;> kernel_rfl
variable (k k' : Kn) {q q' : Rat} {n m : Nat} (sq : Sq n q) (sq' : Sq m q') (hs : n + m ≤ 9000)
include sq sq' hs
theorem c_zle : (T.en (l + 6)).call "Zero.__le__" [zr k q, zr k' q'] = pur (.bl (letsB k' q' k q)) := by
  rw [kBZero___le__ (l + 4) rfl]
  have e := c_lets (l + 1) k' k sq' sq (by omega)
  have i := isi_zero (l + 5) k' q'
  have t := fun ma => mth_lets (l + 5) ma k' q'
  generalize letsB k' q' k q = b at *
  exact fn_pur rfl fun cs => by simp [BZero___le__, i, t, e]
theorem c_zlt : (T.en (l + 6)).call "Zero.__lt__" [zr k q, zr k' q'] = pur (.bl (letsB k' q' k q && !letsB k q k' q')) := by
  rw [kBZero___lt__ (l + 4) rfl]
  have e := c_lets (l + 1) k' k sq' sq (by omega)
  have e' := c_lets (l + 1) k k' sq sq' (by omega)
  have i := isi_zero (l + 5) k' q'
  have t := fun ma => mth_lets (l + 5) ma k' q'
  have t' := fun ma => mth_lets (l + 5) ma k q
  generalize letsB k' q' k q = b at *
  generalize letsB k q k' q' = b' at *
  exact fn_pur rfl fun cs => by cases b <;> simp [BZero___lt__, i, t, t', e, e', En.notV]
end
end Lw

namespace Lw
open PySem L2 Zw
section
variable (l : Nat) (k k' : Kn) {q q' : Rat} {d : Dat}
theorem zc_le (h : (T.en l).call "Zero.__le__" [zr k q, zr k' q'] = pur d) : (T.en l).cmp .LtE (zr k q) (zr k' q') = pur d := by
  have e : (∃ f, (T.en l).cmp .LtE (zr k q) (zr k' q') = orElseM (bnd ((T.en l).call "Zero.__le__" [zr k q, zr k' q']) fun r => pur (some r)) f) ∨ (T.en l).cmp .LtE (zr k q) (zr k' q') = orElseM (pur none) (bnd ((T.en l).call "Zero.__le__" [zr k q, zr k' q']) fun r => pur (some r)) := by
    obtain ⟨c, cl, h⟩ := en_form T l; rw [h]
    cases k <;> cases k' <;> first | exact .inl ⟨orFail ((T.enOf c cl).tryD (cmpInfo .LtE).2.2 _ _), by kernel_rfl⟩ | exact .inr (by kernel_rfl)
  rcases e with ⟨f, e⟩ | e <;> rw [e, h] <;> rfl
theorem zc_lt (h : (T.en l).call "Zero.__lt__" [zr k q, zr k' q'] = pur d) : (T.en l).cmp .Lt (zr k q) (zr k' q') = pur d := by
  have e : (∃ f, (T.en l).cmp .Lt (zr k q) (zr k' q') = orElseM (bnd ((T.en l).call "Zero.__lt__" [zr k q, zr k' q']) fun r => pur (some r)) f) ∨ (T.en l).cmp .Lt (zr k q) (zr k' q') = orElseM (pur none) (bnd ((T.en l).call "Zero.__lt__" [zr k q, zr k' q']) fun r => pur (some r)) := by
    obtain ⟨c, cl, h⟩ := en_form T l; rw [h]
    cases k <;> cases k' <;> first | exact .inl ⟨orFail ((T.enOf c cl).tryD (cmpInfo .Lt).2.2 _ _), by kernel_rfl⟩ | exact .inr (by kernel_rfl)
  rcases e with ⟨f, e⟩ | e <;> rw [e, h] <;> rfl
theorem zc_ge (h : (T.en l).call "Zero.__le__" [zr k' q', zr k q] = pur d) : (T.en l).cmp .GtE (zr k q) (zr k' q') = pur d := by
  have e : (∃ f, (T.en l).cmp .GtE (zr k q) (zr k' q') = orElseM (bnd ((T.en l).call "Zero.__le__" [zr k' q', zr k q]) fun r => pur (some r)) f) ∨ (T.en l).cmp .GtE (zr k q) (zr k' q') = orElseM (pur none) (bnd ((T.en l).call "Zero.__le__" [zr k' q', zr k q]) fun r => pur (some r)) := by
    obtain ⟨c, cl, h⟩ := en_form T l; rw [h]
    cases k <;> cases k' <;> first | exact .inr (by kernel_rfl) | exact .inl ⟨orFail ((T.enOf c cl).tryD (cmpInfo .GtE).2.1 _ _), by kernel_rfl⟩
  rcases e with ⟨f, e⟩ | e <;> rw [e, h] <;> rfl
theorem zc_gt (h : (T.en l).call "Zero.__lt__" [zr k' q', zr k q] = pur d) : (T.en l).cmp .Gt (zr k q) (zr k' q') = pur d := by
  have e : (∃ f, (T.en l).cmp .Gt (zr k q) (zr k' q') = orElseM (bnd ((T.en l).call "Zero.__lt__" [zr k' q', zr k q]) fun r => pur (some r)) f) ∨ (T.en l).cmp .Gt (zr k q) (zr k' q') = orElseM (pur none) (bnd ((T.en l).call "Zero.__lt__" [zr k' q', zr k q]) fun r => pur (some r)) := by
    obtain ⟨c, cl, h⟩ := en_form T l; rw [h]
    cases k <;> cases k' <;> first | exact .inr (by kernel_rfl) | exact .inl ⟨orFail ((T.enOf c cl).tryD (cmpInfo .Gt).2.1 _ _), by kernel_rfl⟩
  rcases e with ⟨f, e⟩ | e <;> rw [e, h] <;> rfl
variable {n m : Nat} (sq : Sq n q) (sq' : Sq m q') (hs : n + m ≤ 9000)
include sq sq' hs
theorem o_zle : (T.en (l + 6)).cmp .LtE (zr k q) (zr k' q') = pur (.bl (letsB k' q' k q)) := zc_le _ _ _ (c_zle l k k' sq sq' hs)
theorem o_zlt : (T.en (l + 6)).cmp .Lt (zr k q) (zr k' q') = pur (.bl (letsB k' q' k q && !letsB k q k' q')) := zc_lt _ _ _ (c_zlt l k k' sq sq' hs)
theorem o_zge : (T.en (l + 6)).cmp .GtE (zr k' q') (zr k q) = pur (.bl (letsB k' q' k q)) := zc_ge _ _ _ (c_zle l k k' sq sq' hs)
theorem o_zgt : (T.en (l + 6)).cmp .Gt (zr k' q') (zr k q) = pur (.bl (letsB k' q' k q && !letsB k q k' q')) := zc_gt _ _ _ (c_zlt l k k' sq sq' hs)
end
theorem lets_trans {k1 k2 k3 : Kn} {q1 q2 q3 : Rat} (h1 : letsB k2 q2 k1 q1 = true) (h2 : letsB k3 q3 k2 q2 = true) : letsB k3 q3 k1 q1 = true := by
  unfold letsB at *
  cases k1 <;> cases k2 <;> cases k3 <;> simp [Kn.unknown, Kn.slides] at * <;> exact Rat.le_trans h1 h2
end Lw

namespace Lw
open PySem L2 Zw TL
/-! ### the law's draws -/
theorem t0_len : T.cs0.length = 0 := by kernel_rfl
@[simp] theorem pen_atL (ns : List Int) (n g : Int) : (pen T.cs0 ns n g)[(0 : Nat)]? = some (some (.lst [.lst (ns.map .int), .int n, .int g])) := by
  have := pen_at T.cs0 ns n g
  rwa [t0_len] at this
@[simp] theorem pen_setL (ns : List Int) (n g n' g' : Int) : (pen T.cs0 ns n g).set 0 (some (.lst [.lst (ns.map .int), .int n', .int g'])) = pen T.cs0 ns n' g' := by
  have := pen_set T.cs0 ns n g n' g'
  rwa [t0_len] at this
abbrev PenL := PenOk T.cs0
theorem pen_nil (n g : Int) : (pen T.cs0 [] n g)[(0 : Nat)]? = some (some (.lst [.lst [], .int n, .int g])) := pen_atL [] n g
@[simp] theorem pen_setN (n g n' g' : Int) : (pen T.cs0 [] n g).set 0 (some (.lst [.lst [], .int n', .int g'])) = pen T.cs0 [] n' g' := pen_setL [] n g n' g'
theorem c_pen (l : Nat) (ns : List Int) (h : ns.length ≤ 63) (env : List Slot) : (T.en (l + 2)).call "_law_pen" [.lst (ns.map .int)] ⟨env, T.cs0⟩ = .ret (.loc 0) ⟨env, pen T.cs0 ns 0 0⟩ := by
  rw [kB_law_pen l rfl]
  have e : cutD (ns.map Dat.int) none (some 63) = ns.map .int := cut_upto (k := 63) (by simpa using h)
  refine fn_ret (n := 1) (m := 1) (B := B_law_pen (T.en (l + 1))) (ds := [Dat.lst (ns.map Dat.int)]) rfl ?_ env
  simp [B_law_pen, e, pen, t0_len]
theorem d_great (l : Nat) (ns : List Int) (n g many : Int) (hg : 0 < g) (hm : 0 < many) (sm : Sm 8000 many) (env : List Slot) :
    (T.en (l + 2)).call "_law_draw" [.loc 0, .int many] ⟨env, pen T.cs0 ns n g⟩ = .ret (.int (g.fmod many)) ⟨env, pen T.cs0 ns n (g.fdiv many)⟩ := by
  rw [kB_law_draw l rfl]
  have m0 : many ≠ 0 := by omega
  refine fn_ret rfl ?_ env
  simp [B_law_draw, hg, z_mod _ _ _ m0, z_div _ _ _ (sm.divOk (by omega) (by omega) m0)]
theorem d_small (l : Nat) (ns : List Int) (n many : Int) (hn : 0 ≤ n) (hn2 : n ≤ 1000000) (hm : 0 < many) (sm : Sm 8000 many) : ∃ v g', 0 ≤ v ∧ v < many ∧ 0 ≤ g' ∧ ∀ env,
    (T.en (l + 2)).call "_law_draw" [.loc 0, .int many] ⟨env, pen T.cs0 ns n 0⟩ = .ret (.int v) ⟨env, pen T.cs0 ns (n + 1) g'⟩ := by
  have m0 : many ≠ 0 := by omega
  have key : ∀ lone : Int, (if ns.isEmpty = true then lone = 72550 * n + 616 else ns[(n.fmod ns.length).toNat]? = some lone) → ∃ v g', 0 ≤ v ∧ v < many ∧ 0 ≤ g' ∧ ∀ env, (T.en (l + 2)).call "_law_draw" [.loc 0, .int many] ⟨env, pen T.cs0 ns n 0⟩ = .ret (.int v) ⟨env, pen T.cs0 ns (n + 1) g'⟩ := by
    intro lone hl
    have hix : ∀ x, ns[(n.fmod ns.length).toNat]? = some x → ixM (.lst (ns.map .int)) (.int (n.fmod ns.length)) = pur (.int x) := fun x hx => by
      have hlt := (List.getElem?_eq_some_iff.mp hx).1
      have r := fmod_range (i := n) (j := (ns.length : Int)) (by omega)
      have := (z_ix (ds := ns.map Dat.int) (k := (n.fmod ns.length).toNat) (d := .int x) (by rw [List.getElem?_map, hx]; rfl)).1
      rw [show (((n.fmod ns.length).toNat : Nat) : Int) = n.fmod ns.length by omega] at this
      exact this
    have b1 := fmod_range (i := lone) (j := 2147483587) (by omega)
    have p1 := small_pow (i := lone.fmod 2147483587 + 75344 * n + 616) (j := 5) (by omega) (by omega) (by omega) (by omega)
    have b2 := fmod_range (i := (lone.fmod 2147483587 + 75344 * n + 616) ^ 5) (j := 2147483647) (by omega)
    generalize hx : ((lone.fmod 2147483587 + 75344 * n + 616) ^ 5).fmod 2147483647 = mx at b2
    have q1 : 0 ≤ mx * (2 * n + 89) ∧ mx * (2 * n + 89) ≤ 2147483647 * 2000089 := ⟨Int.mul_nonneg (by omega) (by omega), Int.mul_le_mul (by omega) (by omega) (by omega) (by omega)⟩
    have q2 : 0 ≤ 56174 * n * n ∧ 56174 * n * n ≤ 56174000000 * 1000000 := ⟨Int.mul_nonneg (by omega) (by omega), Int.mul_le_mul (by omega) (by omega) (by omega) (by omega)⟩
    have p2 := small_pow (i := mx * (2 * n + 89) + 56174 * n * n + 29) (j := 3) (by omega) (by omega) (by omega) (by omega)
    have b3 := fmod_range (i := (mx * (2 * n + 89) + 56174 * n * n + 29) ^ 3) (j := 2147483629) (by omega)
    have m1 := small_mul (i := mx) (j := 2 * n + 89) (by omega) (by omega)
    have m2 := small_mul (i := 56174 * n) (j := n) (by omega) (by omega)
    have c0 : ∀ j, mulOk 72550 j = true := fun j => small_mul (by omega) (by omega)
    have c1 : ∀ j, mulOk 75344 j = true := fun j => small_mul (by omega) (by omega)
    have c2 : ∀ j, mulOk 2 j = true := fun j => small_mul (by omega) (by omega)
    have c3 : ∀ j, mulOk 56174 j = true := fun j => small_mul (by omega) (by omega)
    have pt := small_pow (i := 10) (j := 18) (by omega) (by omega) (by omega) (by omega)
    have dk : ∀ i, divOk i many = true := fun i => sm.divOk (by omega) (by omega) m0
    have d32 : ∀ i, divOk i 32 = true := fun i => by unfold divOk; decide
    have k1 : (2147483587 : Int) ≠ 0 := by omega
    have k2 : (2147483647 : Int) ≠ 0 := by omega
    have k3 : (2147483629 : Int) ≠ 0 := by omega
    by_cases hb : n < (ns.length : Int) ∧ 1000000000000000000 ≤ (lone.natAbs : Int)
    · have hg : 0 ≤ 2 * ((lone.natAbs : Int) - 1000000000000000000) + (if lone < 0 then 1 else 0) := by split <;> omega
      have b4 := fmod_range (i := 2 * ((lone.natAbs : Int) - 1000000000000000000) + (if lone < 0 then 1 else 0)) hm
      refine ⟨_, (2 * ((lone.natAbs : Int) - 1000000000000000000) + (if lone < 0 then 1 else 0)).fdiv many, b4.1, b4.2, Int.fdiv_nonneg hg (by omega), fun env => ?_⟩
      rw [kB_law_draw l rfl]
      refine fn_ret rfl ?_ env
      by_cases he : ns = []
      · subst he
        simp at hb
        omega
      · have hne : ns.isEmpty = false := by simpa using he
        rw [hne] at hl
        have ei := hix lone (by simpa using hl)
        have hl0 : (ns.length : Int) ≠ 0 := by
          have := List.length_pos_iff.mpr he
          omega
        simp [B_law_draw, z_mul _ _ _ (c0 _), z_neNil, he, z_mod _ _ _ hl0, ei, hb.1, hb.2, z_pow _ _ _ pt, z_mul _ _ _ (c2 _), z_div _ _ _ (dk _), z_mod _ _ _ m0]
    · have b5 := fmod_range (i := (((mx * (2 * n + 89) + 56174 * n * n + 29) ^ 3).fmod 2147483629).fdiv 32) hm
      refine ⟨_, 0, b5.1, b5.2, by omega, fun env => ?_⟩
      rw [kB_law_draw l rfl]
      refine fn_ret rfl ?_ env
      by_cases he : ns = []
      · subst he
        have hl : lone = 72550 * n + 616 := by simpa using hl
        subst hl
        simp [B_law_draw, z_mul _ _ _ (c0 _), show ∀ E : En, E.cmp .NotEq (.lst []) (.lst []) = pur (.bl false) from fun E => z_neNil E [], show ¬ (n < 0) by omega, z_pow _ _ _ p1, z_pow _ _ _ p2, z_mul _ _ _ (c1 _), z_mul _ _ _ (c2 _), z_mul _ _ _ (c3 _), z_mul _ _ _ m1, z_mul _ _ _ m2, z_mod _ _ _ k1, z_mod _ _ _ k2, z_mod _ _ _ k3, z_div _ _ _ (d32 _), z_mod _ _ _ m0, hx, pen_nil]
      · have hne : ns.isEmpty = false := by simpa using he
        rw [hne] at hl
        have ei := hix lone (by simpa using hl)
        have hl0 : (ns.length : Int) ≠ 0 := by
          have := List.length_pos_iff.mpr he
          omega
        by_cases hb1 : n < (ns.length : Int)
        · have hb2 : ¬ (1000000000000000000 ≤ (lone.natAbs : Int)) := fun z => hb ⟨hb1, z⟩
          simp [B_law_draw, z_mul _ _ _ (c0 _), z_neNil, he, z_mod _ _ _ hl0, ei, hb1, hb2, z_pow _ _ _ pt, z_pow _ _ _ p1, z_pow _ _ _ p2, z_mul _ _ _ (c1 _), z_mul _ _ _ (c2 _), z_mul _ _ _ (c3 _), z_mul _ _ _ m1, z_mul _ _ _ m2, z_mod _ _ _ k1, z_mod _ _ _ k2, z_mod _ _ _ k3, z_div _ _ _ (d32 _), z_mod _ _ _ m0, hx]
        · simp [B_law_draw, z_mul _ _ _ (c0 _), z_neNil, he, z_mod _ _ _ hl0, ei, hb1, z_pow _ _ _ p1, z_pow _ _ _ p2, z_mul _ _ _ (c1 _), z_mul _ _ _ (c2 _), z_mul _ _ _ (c3 _), z_mul _ _ _ m1, z_mul _ _ _ m2, z_mod _ _ _ k1, z_mod _ _ _ k2, z_mod _ _ _ k3, z_div _ _ _ (d32 _), z_mod _ _ _ m0, hx]
  by_cases he : ns = []
  · exact key (72550 * n + 616) (by simp [he])
  · have hl0 : 0 < ns.length := List.length_pos_iff.mpr he
    have r := fmod_range (i := n) (j := (ns.length : Int)) (by omega)
    have hlt : (n.fmod ns.length).toNat < ns.length := by omega
    exact key ns[(n.fmod ns.length).toNat] (by simp [he, hlt])
/-- a draw -/
theorem c_draw (l : Nat) {k : Int} {cs : List (Option Dat)} (p : PenL k cs) (hk : k ≤ 1000000) {many : Int} (hm : 0 < many) (sm : Sm 8000 many) : ∃ v cs', 0 ≤ v ∧ v < many ∧ PenL (k + 1) cs' ∧ ∀ env,
    (T.en (l + 2)).call "_law_draw" [.loc 0, .int many] ⟨env, cs⟩ = .ret (.int v) ⟨env, cs'⟩ := by
  obtain ⟨ns, n, g, rfl, h2, h3, h4, h5⟩ := p.ex
  by_cases hg : g = 0
  · subst hg
    obtain ⟨v, g', a, b, c, e⟩ := d_small l ns n many h3 (by omega) hm sm
    exact ⟨v, _, a, b, ⟨⟨ns, n + 1, g', rfl, h2, by omega, by omega, c⟩⟩, e⟩
  · have r := fmod_range (i := g) hm
    exact ⟨_, _, r.1, r.2, ⟨⟨ns, n, g.fdiv many, rfl, h2, h3, by omega, Int.fdiv_nonneg h5 (by omega)⟩⟩, d_great l ns n g many (by omega) hm sm⟩
theorem sm_len {n : Nat} (h : n ≤ 1000) : Sm 8000 (n : Int) := by
  unfold Sm
  have : 2 ^ 10 ≤ 2 ^ 8000 := Nat.pow_le_pow_right (by decide) (by decide)
  have : (n : Int).natAbs < 2 ^ 10 := by simp; omega
  omega
/-- one of some values -/
theorem c_pick (l : Nat) {k : Int} {cs : List (Option Dat)} (p : PenL k cs) (hk : k ≤ 1000000) {ds : List Dat} (h0 : ds ≠ []) (hl : ds.length ≤ 1000) : ∃ d cs', d ∈ ds ∧ PenL (k + 1) cs' ∧ ∀ env,
    (T.en (l + 3)).call "_law_pick" [.loc 0, .lst ds] ⟨env, cs⟩ = .ret d ⟨env, cs'⟩ := by
  have hp := List.length_pos_iff.mpr h0
  obtain ⟨v, cs', a, b, c, e⟩ := c_draw l p hk (many := ds.length) (by omega) (sm_len hl)
  have hv : v.toNat < ds.length := by omega
  have ei := (z_ix (ds := ds) (k := v.toNat) (d := ds[v.toNat]) (List.getElem?_eq_getElem hv)).1
  rw [show ((v.toNat : Nat) : Int) = v by omega] at ei
  refine ⟨ds[v.toNat], cs', List.getElem_mem hv, c, fun env => ?_⟩
  rw [kB_law_pick (l + 1) rfl]
  refine fn_ret (n := 2) (m := 2) (B := B_law_pick (T.en (l + 2))) rfl ?_ env
  simp [B_law_pick, e, ei]
/-- one sign of a text -/
theorem c_pickS (l : Nat) {k : Int} {cs : List (Option Dat)} (p : PenL k cs) (hk : k ≤ 1000000) {z : Str} (h0 : z.length ≠ 0) (hl : z.length ≤ 1000) : ∃ c cs', c ∈ z.cps.toList ∧ PenL (k + 1) cs' ∧ ∀ env,
    (T.en (l + 3)).call "_law_pick" [.loc 0, .str z] ⟨env, cs⟩ = .ret (sign c) ⟨env, cs'⟩ := by
  obtain ⟨v, cs', a, b, c, e⟩ := c_draw l p hk (many := z.length) (by omega) (sm_len hl)
  have hv : v.toNat < z.cps.size := by
    have : z.cps.size = z.length := rfl
    omega
  have ei := z_ixStr hv (by omega)
  rw [show ((v.toNat : Nat) : Int) = v by omega] at ei
  refine ⟨z.cps[v.toNat], cs', by simp, c, fun env => ?_⟩
  rw [kB_law_pick (l + 1) rfl]
  refine fn_ret (n := 2) (m := 2) (B := B_law_pick (T.en (l + 2))) rfl ?_ env
  have hz : z.length ≤ 16777216 := by omega
  simp [B_law_pick, z_lenS hz, e, ei]
end Lw

namespace Lw
open PySem L2 Zw
theorem sm_lit {i : Int} {n : Nat} (h : i.natAbs < 2 ^ 101) (hn : 101 ≤ n) : Sm n i := Sm.mono (n := 101) h hn
/-- a row: a kind and a pace told by two integers -/
structure Rw where
  k : Kn
  a : Int
  b : Int
def Rw.q (r : Rw) : Rat := Rat.divInt r.a r.b
structure Rw.Ok (r : Rw) : Prop where
  a0 : 0 ≤ r.a
  a1 : r.a < 2 ^ 100
  b0 : 0 < r.b
  b1 : r.b < 2 ^ 100
def Rw.dat (r : Rw) : Dat := .tup [.str r.k.word, .tup [.int r.a, .int r.b], zr r.k r.q]
theorem Rw.Ok.sa {r : Rw} (h : r.Ok) : Sm 101 r.a := by
  have := h.a0; have := h.a1
  have : (2 : Int) ^ 100 = 1267650600228229401496703205376 := by decide
  unfold Sm
  have : (2 : Nat) ^ 101 = 2535301200456458802993406410752 := by decide
  omega
theorem Rw.Ok.sb {r : Rw} (h : r.Ok) : Sm 101 r.b := by
  have := h.b0; have := h.b1
  have : (2 : Int) ^ 100 = 1267650600228229401496703205376 := by decide
  unfold Sm
  have : (2 : Nat) ^ 101 = 2535301200456458802993406410752 := by decide
  omega
theorem Rw.Ok.sq {r : Rw} (h : r.Ok) : Sq 101 r.q := sq_div h.sa h.sb (by omega)
theorem Rw.Ok.pos {r : Rw} (h : r.Ok) : 0 ≤ r.q := by
  unfold Rw.q
  exact Rat.divInt_nonneg h.a0 (Int.le_of_lt h.b0)
theorem rw_le {r r' : Rw} (h : r.Ok) (h' : r'.Ok) : decide (r.q ≤ r'.q) = decide (r.a * r'.b ≤ r'.a * r.b) := by
  rw [decide_eq_decide]
  unfold Rw.q
  have b0 := h.b0
  have b0' := h'.b0
  rw [Rat.le_iff_sub_nonneg, Rat.divInt_sub_divInt _ _ (by omega) (by omega), Rat.divInt_nonneg_iff_of_pos_right (Int.mul_pos b0' b0)]
  omega
theorem c_llets (l : Nat) {r r' : Rw} (h : r.Ok) (h' : r'.Ok) : (T.en (l + 2)).call "_law_lets" [r.dat, r'.dat] = pur (.bl (letsB r'.k r'.q r.k r.q)) := by
  rw [kB_law_lets l rfl]
  have m1 := z_mul (T.en (l + 1)) _ _ (h.sa.mulOk h'.sb (by omega) (by omega) (by omega))
  have m2 := z_mul (T.en (l + 1)) _ _ (h'.sa.mulOk h.sb (by omega) (by omega) (by omega))
  have x1 : (T.en (l + 1)).cmp .LtE (.int (r.a * r'.b)) (.int (r'.a * r.b)) = pur (.bl (decide (r.a * r'.b ≤ r'.a * r.b))) := rfl
  rw [← rw_le h h'] at x1
  have f1 : (T.en (l + 1)).cmp .Eq (.str r.k.word) (.str "fixed") = pur (.bl (!r.k.unknown)) := by cases r.k <;> kernel_rfl
  have f2 : (T.en (l + 1)).cmp .Eq (.str r'.k.word) (.str "fixed") = pur (.bl (!r'.k.unknown)) := by cases r'.k <;> kernel_rfl
  have s1 : inn false (.str r.k.word) (.tup [.str "sliding", .str "slidewalk"]) = pur (.bl r.k.slides) := by cases r.k <;> kernel_rfl
  have s2 : inn true (.str r'.k.word) (.tup [.str "sliding", .str "slidewalk"]) = pur (.bl (!r'.k.slides)) := by cases r'.k <;> kernel_rfl
  unfold letsB Rw.dat
  generalize zr r.k r.q = z1 at *
  generalize zr r'.k r'.q = z2 at *
  generalize decide (r.q ≤ r'.q) = b at *
  generalize r.k.unknown = a1 at *
  generalize r'.k.unknown = a2 at *
  generalize r.k.slides = a3 at *
  generalize r'.k.slides = a4 at *
  refine fn_pur rfl fun cs => ?_
  cases a1 with
  | false => simp [B_law_lets, f1, -z_eqs]
  | true =>
    cases a2 with
    | false => simp [B_law_lets, f1, f2, -z_eqs]
    | true => cases a3 <;> cases a4 <;> simp [B_law_lets, f1, f2, s1, s2, m1, m2, x1, -z_eqs, -z_le]
theorem c_share (l : Nat) {k : Int} {cs : List (Option Dat)} (p : PenL k cs) (hk : k ≤ 900000) : ∃ (a b : Int) (cs' : List (Option Dat)), a.natAbs < 2 ^ 100 ∧ 0 < b ∧ b < 2 ^ 100 ∧ PenL (k + 3) cs' ∧ ∀ env,
    (T.en (l + 4)).call "_law_share" [.loc 0] ⟨env, cs⟩ = .ret (.tup [.int a, .int b]) ⟨env, cs'⟩ := by
  have two : (2 : Nat) ^ 100 = 1267650600228229401496703205376 := by decide
  have twi : (2 : Int) ^ 100 = 1267650600228229401496703205376 := by decide
  obtain ⟨v1, cs1, a1, b1, p1, e1⟩ := c_draw (l + 1) p (by omega) (many := 60) (by omega) (sm_lit (by decide) (by omega))
  have pt := small_pow (i := 10) (j := 29) (by omega) (by omega) (by omega) (by omega)
  obtain ⟨d, cs2, a2, p2, e2⟩ := c_pick l p1 (by omega) (ds := [.int 0, .int 1, .int (-1), .int 2, .int (-3), .int 9, .int (-9), .int 10, .int 100000000000000000000000000000, .int (v1 - 30)]) (by simp) (by simp)
  have hd : ∃ i : Int, d = .int i ∧ i.natAbs < 2 ^ 100 := by
    simp only [List.mem_cons, List.not_mem_nil, or_false] at a2
    rcases a2 with rfl | rfl | rfl | rfl | rfl | rfl | rfl | rfl | rfl | rfl <;> exact ⟨_, rfl, by omega⟩
  obtain ⟨a, rfl, ha⟩ := hd
  obtain ⟨d3, cs3, a3, p3, e3⟩ := c_pick l p2 (by omega) (ds := [.int 1, .int 1, .int 1, .int 2, .int 3, .int 100000000000000000000000000001]) (by simp) (by simp)
  have hd : ∃ i : Int, d3 = .int i ∧ 0 < i ∧ i < 2 ^ 100 := by
    simp only [List.mem_cons, List.not_mem_nil, or_false] at a3
    rcases a3 with rfl | rfl | rfl | rfl | rfl | rfl <;> exact ⟨_, rfl, by omega, by omega⟩
  obtain ⟨b, rfl, hb0, hb1⟩ := hd
  refine ⟨a, b, cs3, ha, hb0, hb1, p3.mono (by omega), fun env => ?_⟩
  rw [kB_law_share (l + 2) rfl]
  refine fn_ret (n := 1) (m := 2) (B := B_law_share (T.en (l + 3))) rfl ?_ env
  simp [B_law_share, e1, e2, e3, z_pow _ _ _ pt]
/-- the rows of some paces -/
def rows (a1 b1 a2 b2 : Int) : List Rw := [⟨.fixed, 0, 1⟩, ⟨.still, 0, 1⟩, ⟨.sliding, 0, 1⟩, ⟨.walking, 0, 1⟩, ⟨.slidewalk, 0, 1⟩, ⟨.walking, a1, b1⟩, ⟨.slidewalk, a1, b1⟩, ⟨.walking, a2, b2⟩, ⟨.slidewalk, a2, b2⟩]
theorem q01 (k : Kn) : (Rw.mk k 0 1).q = 0 := by unfold Rw.q; simp
theorem c_every (l : Nat) {a1 b1 a2 b2 : Int} (h1 : (Rw.mk .walking a1 b1).Ok) (h2 : (Rw.mk .walking a2 b2).Ok) : (T.en (l + 9)).call "_law_every" [.lst [.tup [.int 0, .int 1], .tup [.int a1, .int b1], .tup [.int a2, .int b2]]] = pur (.lst ((rows a1 b1 a2 b2).map Rw.dat)) := by
  rw [kB_law_every (l + 7) rfl]
  have h0 : (Rw.mk .walking 0 1).Ok := ⟨by decide, by decide, by decide, by decide⟩
  have f := mk_fixed (l + 3)
  have s := mk_still (l + 3)
  have g := mk_sliding (l + 3)
  have mk := fun (r : Rw) (h : r.Ok) => c_make (l + 5) (t := r.a) (b := r.b) (by have := h.b0; omega) h.sb (by omega)
  have w := fun (r : Rw) (h : r.Ok) => mk_walking (l + 3) (.amt r.q) h.sq (by omega) h.pos
  have y := fun (r : Rw) (h : r.Ok) => mk_slidewalk l (.amt r.q) h.sq (by omega) h.pos
  have k0 := mk _ h0
  have k1 := mk _ h1
  have k2 := mk _ h2
  have w0 := w _ h0
  have w1 := w _ h1
  have w2 := w _ h2
  have y0 := y _ h0
  have y1 := y _ h1
  have y2 := y _ h2
  have e0 : (Rw.mk .fixed 0 1).q = 0 := q01 _
  unfold rows
  simp only [List.map_cons, List.map_nil, Rw.dat]
  have q1 : (Rw.mk .slidewalk a1 b1).q = (Rw.mk .walking a1 b1).q := rfl
  have q2 : (Rw.mk .slidewalk a2 b2).q = (Rw.mk .walking a2 b2).q := rfl
  rw [q1, q2, q01, q01, q01, q01, q01]
  have r1 : Rat.divInt a1 b1 = (Rw.mk .walking a1 b1).q := rfl
  have r2 : Rat.divInt a2 b2 = (Rw.mk .walking a2 b2).q := rfl
  have r0 : Rat.divInt 0 1 = 0 := by simp
  dsimp only at k0 k1 k2
  rw [r0] at k0
  rw [r1] at k1
  rw [r2] at k2
  rw [q01] at w0 y0
  generalize (Rw.mk .walking a1 b1).q = x1 at *
  generalize (Rw.mk .walking a2 b2).q = x2 at *
  generalize (0 : Rat) = x0 at *
  have wd : Kn.fixed.word = "fixed" ∧ Kn.still.word = "still" ∧ Kn.sliding.word = "sliding" ∧ Kn.walking.word = "walking" ∧ Kn.slidewalk.word = "slidewalk" := ⟨rfl, rfl, rfl, rfl, rfl⟩
  exact fn_pur rfl fun cs => by simp [B_law_every, B_law_every_f0, f, s, g, k0, k1, k2, w0, w1, w2, y0, y1, y2, sizeLine, wd.1, wd.2.1, wd.2.2.1, wd.2.2.2.1, wd.2.2.2.2]
end Lw

namespace Lw
open PySem L2 Zw
theorem sh_4 (a b : Bool) : ∃ z, ∀ E : En, runR E.rRep [.lst [.bl a, .bl b, .bl a, .bl b]] = pur (.str z) :=
  (Sh.lst (ds := [.bl a, .bl b, .bl a, .bl b]) (n := 5) (k := 0) fun d hd => by
    simp only [List.mem_cons, List.not_mem_nil, or_false] at hd
    rcases hd with rfl | rfl | rfl | rfl <;> exact Sh.bl _).ok (by simp) (by omega)
section
variable (l : Nat) (a0 a1 a2 a3 a4 a5 a6 a7 a14 : Zw.Slot) (cs : List (Option Dat))
theorem pair_ok {r r' : Rw} (h : r.Ok) (h' : r'.Ok) (a10 a11 a12 a13 : Zw.Slot) : ∃ b10 b11 b12 b13, Blaw_f1 (T.en (l + 9)) ⟨[a0, a1, a2, a3, a4, a5, a6, a7, .val r.dat, .val r'.dat, a10, a11, a12, a13, a14], cs⟩ = .nx ⟨[a0, a1, a2, a3, a4, a5, a6, a7, .val r.dat, .val r'.dat, b10, b11, b12, b13, a14], cs⟩ := by
  have l1 := c_llets (l + 7) h h'
  have l2 := c_llets (l + 7) h' h
  have o1 := o_zle (l + 3) r.k r'.k h.sq h'.sq (by omega)
  have o2 := o_zlt (l + 3) r.k r'.k h.sq h'.sq (by omega)
  have o3 := o_zge (l + 3) r.k r'.k h.sq h'.sq (by omega)
  have o4 := o_zgt (l + 3) r.k r'.k h.sq h'.sq (by omega)
  obtain ⟨z, w⟩ := sh_4 (letsB r'.k r'.q r.k r.q) (letsB r'.k r'.q r.k r.q && !letsB r.k r.q r'.k r'.q)
  generalize letsB r'.k r'.q r.k r.q = b1 at *
  generalize letsB r.k r.q r'.k r'.q = b2 at *
  refine ⟨.val (.bl b1), .val (.bl (b1 && !b2)), .val (zr r.k r.q), .val (zr r'.k r'.q), ?_⟩
  unfold Rw.dat at l1 l2 ⊢
  cases b1 <;> cases b2 <;> simp at o1 o2 o3 o4 w ⊢ <;> simp [Blaw_f1, l1, l2, o1, o2, o3, o4, w, En.notV]
theorem row_ok {R : List Rw} (hR : ∀ r ∈ R, r.Ok) (hl : R.length ≤ 100) {r : Rw} (h : r.Ok) (a9 a10 a11 a12 a13 : Zw.Slot) : ∃ b9 b10 b11 b12 b13, Blaw_f2 (T.en (l + 9)) ⟨[a0, a1, a2, a3, a4, a5, a6, .val (.lst (R.map Rw.dat)), .val r.dat, a9, a10, a11, a12, a13, a14], cs⟩ = .nx ⟨[a0, a1, a2, a3, a4, a5, a6, .val (.lst (R.map Rw.dat)), .val r.dat, b9, b10, b11, b12, b13, a14], cs⟩ := by
  obtain ⟨s', ef, b9, b10, b11, b12, b13, rfl⟩ := for_inv (g := asgS 9) (b := Blaw_f1 (T.en (l + 9))) (fun n s => ∃ b9 b10 b11 b12 b13, s = ⟨[a0, a1, a2, a3, a4, a5, a6, .val (.lst (R.map Rw.dat)), .val r.dat, b9, b10, b11, b12, b13, a14], cs⟩) 100
    (R.map Rw.dat) 0 ⟨[a0, a1, a2, a3, a4, a5, a6, .val (.lst (R.map Rw.dat)), .val r.dat, a9, a10, a11, a12, a13, a14], cs⟩ (by simpa using hl) ⟨_, _, _, _, _, rfl⟩ (by
      rintro d hd n s hlt ⟨b9, b10, b11, b12, b13, rfl⟩
      obtain ⟨r', hr', rfl⟩ := List.mem_map.mp hd
      obtain ⟨c10, c11, c12, c13, e⟩ := pair_ok l a0 a1 a2 a3 a4 a5 a6 (.val (.lst (R.map Rw.dat))) a14 cs h (hR r' hr') b10 b11 b12 b13
      exact ⟨_, _, rfl, e, .val r'.dat, c10, c11, c12, c13, rfl⟩)
  refine ⟨b9, b10, b11, b12, b13, ?_⟩
  generalize R.map Rw.dat = L at *
  simp [Blaw_f2, -z_for1, -z_for0]
  rw [ef]
theorem rows_ok {R : List Rw} (hR : ∀ r ∈ R, r.Ok) (hl : R.length ≤ 100) (a8 a9 a10 a11 a12 a13 : Zw.Slot) : ∃ b8 b9 b10 b11 b12 b13, forM (asgS 8) (Blaw_f2 (T.en (l + 9))) (R.map Rw.dat) ⟨[a0, a1, a2, a3, a4, a5, a6, .val (.lst (R.map Rw.dat)), a8, a9, a10, a11, a12, a13, a14], cs⟩ = .nx ⟨[a0, a1, a2, a3, a4, a5, a6, .val (.lst (R.map Rw.dat)), b8, b9, b10, b11, b12, b13, a14], cs⟩ := by
  obtain ⟨s', ef, b8, b9, b10, b11, b12, b13, rfl⟩ := for_inv (g := asgS 8) (b := Blaw_f2 (T.en (l + 9))) (fun n s => ∃ b8 b9 b10 b11 b12 b13, s = ⟨[a0, a1, a2, a3, a4, a5, a6, .val (.lst (R.map Rw.dat)), b8, b9, b10, b11, b12, b13, a14], cs⟩) 100
    (R.map Rw.dat) 0 ⟨[a0, a1, a2, a3, a4, a5, a6, .val (.lst (R.map Rw.dat)), a8, a9, a10, a11, a12, a13, a14], cs⟩ (by simpa using hl) ⟨_, _, _, _, _, _, rfl⟩ (by
      rintro d hd n s hlt ⟨b8, b9, b10, b11, b12, b13, rfl⟩
      obtain ⟨r, hr, rfl⟩ := List.mem_map.mp hd
      obtain ⟨c9, c10, c11, c12, c13, e⟩ := row_ok l a0 a1 a2 a3 a4 a5 a6 a14 cs hR hl (hR r hr) b9 b10 b11 b12 b13
      exact ⟨_, _, rfl, e, .val r.dat, c9, c10, c11, c12, c13, rfl⟩)
  exact ⟨b8, b9, b10, b11, b12, b13, ef⟩
end
end Lw

namespace Lw
open PySem L2 Zw
theorem ok01 (k : Kn) : (Rw.mk k 0 1).Ok := by
  have two : (2 : Int) ^ 100 = 1267650600228229401496703205376 := by decide
  exact ⟨Int.le_refl _, by show (0 : Int) < 2 ^ 100; omega, by show (0 : Int) < 1; omega, by show (1 : Int) < 2 ^ 100; omega⟩
theorem ok_abs {t u : Int} (k : Kn) (ha : t.natAbs < 2 ^ 100) (hb : 0 < u) (hc : u < 2 ^ 100) : (Rw.mk k (t.natAbs : Int) u).Ok := by
  have two : (2 : Nat) ^ 100 = 1267650600228229401496703205376 := by decide
  have twi : (2 : Int) ^ 100 = 1267650600228229401496703205376 := by decide
  exact ⟨by show (0 : Int) ≤ (t.natAbs : Int); omega, by show (t.natAbs : Int) < 2 ^ 100; omega, hb, hc⟩
theorem rows_all {t1 u1 t2 u2 : Int} (ha : t1.natAbs < 2 ^ 100) (hb : 0 < u1) (hc : u1 < 2 ^ 100) (ha' : t2.natAbs < 2 ^ 100) (hb' : 0 < u2) (hc' : u2 < 2 ^ 100) : ∀ r ∈ rows (t1.natAbs : Int) u1 (t2.natAbs : Int) u2, r.Ok := by
  unfold rows
  simp only [List.forall_mem_cons, List.not_mem_nil, false_implies, implies_true, and_true]
  exact ⟨ok01 _, ok01 _, ok01 _, ok01 _, ok01 _, ok_abs _ ha hb hc, ok_abs _ ha hb hc, ok_abs _ ha' hb' hc', ok_abs _ ha' hb' hc'⟩
theorem seq_nx {m f : MS} {s s' : Sto} {o : OutS} (h : m s = .nx s') (h2 : f s' = o) : seqS m f s = o := by
  rw [z_seq, h]; exact h2
theorem turn (l : Nat) {k : Int} {cs : List (Option Dat)} (p : PenL k cs) (hk : k ≤ 800000) (sc : Dat) (a2 a3 a5 a6 a7 a8 a9 a10 a11 a12 a13 a14 : Zw.Slot) (a4 : Zw.Slot) : ∃ b2 b3 b4 b5 b6 b7 b8 b9 b10 b11 b12 b13 b14 cs', PenL (k + 100) cs' ∧
    Blaw_f4 (T.en (l + 9)) ⟨[.val sc, .val (.loc 0), a2, a3, a4, a5, a6, a7, a8, a9, a10, a11, a12, a13, a14], cs⟩ = .nx ⟨[.val sc, .val (.loc 0), b2, b3, b4, b5, b6, b7, b8, b9, b10, b11, b12, b13, b14], cs'⟩ := by
  obtain ⟨t1, u1, cs1, ha1, hb1, hc1, p1, e1⟩ := c_share (l + 5) p (by omega)
  obtain ⟨t2, u2, cs2, ha2, hb2, hc2, p2, e2⟩ := c_share (l + 5) p1 (by omega)
  have h1 := ok_abs .walking ha1 hb1 hc1
  have h2 := ok_abs .walking ha2 hb2 hc2
  have ev := c_every l h1 h2
  have hR := rows_all ha1 hb1 hc1 ha2 hb2 hc2
  have hl : (rows (t1.natAbs : Int) u1 (t2.natAbs : Int) u2).length = 9 := rfl
  generalize rows (t1.natAbs : Int) u1 (t2.natAbs : Int) u2 = R at *
  obtain ⟨b8, b9, b10, b11, b12, b13, er⟩ := rows_ok l (.val sc) (.val (.loc 0)) a2 (.val (.lst [.tup [.int 0, .int 1], .tup [.int t1.natAbs, .int u1], .tup [.int t2.natAbs, .int u2]])) (.val (.int 1)) (.val (.int t2)) (.val (.int u2)) a14 cs2 hR (by omega) a8 a9 a10 a11 a12 a13
  have hne : R.map Rw.dat ≠ [] := fun z => by have := congrArg List.length z; simp [hl] at this
  obtain ⟨d1, cs3, m1, p3, e3⟩ := c_pick (l + 6) p2 (by omega) (ds := R.map Rw.dat) hne (by simp [hl])
  obtain ⟨d2, cs4, m2, p4, e4⟩ := c_pick (l + 6) p3 (by omega) (ds := R.map Rw.dat) hne (by simp [hl])
  obtain ⟨d3, cs5, m3, p5, e5⟩ := c_pick (l + 6) p4 (by omega) (ds := R.map Rw.dat) hne (by simp [hl])
  obtain ⟨r1, hr1, rfl⟩ := List.mem_map.mp m1
  obtain ⟨r2, hr2, rfl⟩ := List.mem_map.mp m2
  obtain ⟨r3, hr3, rfl⟩ := List.mem_map.mp m3
  have k1 := hR r1 hr1
  have k2 := hR r2 hr2
  have k3 := hR r3 hr3
  have o1 := o_zle (l + 3) r1.k r2.k k1.sq k2.sq (by omega)
  have o2 := o_zle (l + 3) r2.k r3.k k2.sq k3.sq (by omega)
  have o3 := o_zle (l + 3) r1.k r3.k k1.sq k3.sq (by omega)
  have tr : letsB r2.k r2.q r1.k r1.q = true → letsB r3.k r3.q r2.k r2.q = true → letsB r3.k r3.q r1.k r1.q = true := lets_trans
  generalize letsB r2.k r2.q r1.k r1.q = c1 at *
  generalize letsB r3.k r3.q r2.k r2.q = c2 at *
  generalize letsB r3.k r3.q r1.k r1.q = c3 at *
  have g2 : rangeM [.int 2] = pur [.int 0, .int 1] := by kernel_rfl
  have g3 : rangeM [.int 3] = pur [.int 0, .int 1, .int 2] := by kernel_rfl
  refine ⟨a2, .val (.lst [.tup [.int 0, .int 1], .tup [.int t1.natAbs, .int u1], .tup [.int t2.natAbs, .int u2]]), .val (.int 1), .val (.int t2), .val (.int u2), .val (.lst (R.map Rw.dat)), b8, b9, b10, b11, b12, b13, .val (.lst [zr r1.k r1.q, zr r2.k r2.q, zr r3.k r3.q]), cs5, p5.mono (by omega), ?_⟩
  unfold Rw.dat at e3 e4 e5 er ev ⊢
  generalize (R.map fun r => Dat.tup [.str r.k.word, .tup [.int r.a, .int r.b], zr r.k r.q]) = L at *
  have es : forM (asgS 4) (Blaw_f3 (T.en (l + 9))) [.int 0, .int 1] ⟨[.val sc, .val (.loc 0), a2, .own (.lst [.tup [.int 0, .int 1]]), a4, a5, a6, a7, a8, a9, a10, a11, a12, a13, a14], cs⟩ = .nx ⟨[.val sc, .val (.loc 0), a2, .own (.lst [.tup [.int 0, .int 1], .tup [.int t1.natAbs, .int u1], .tup [.int t2.natAbs, .int u2]]), .val (.int 1), .val (.int t2), .val (.int u2), a7, a8, a9, a10, a11, a12, a13, a14], cs2⟩ := by
    simp [Blaw_f3, e1, e2, sizeLine]
  have lcs : ∀ b8 b9 b10 b11 b12 b13 : Zw.Slot, lcM [4] (bnd (consA (pur (.int 3)) nilA) rangeM) (asgS 4) (pur true) (Blaw_e0 (T.en (l + 9))) ⟨[.val sc, .val (.loc 0), a2, .val (.lst [.tup [.int 0, .int 1], .tup [.int t1.natAbs, .int u1], .tup [.int t2.natAbs, .int u2]]), .val (.int 1), .val (.int t2), .val (.int u2), .val (.lst L), b8, b9, b10, b11, b12, b13, a14], cs2⟩ = .ret (.lst [zr r1.k r1.q, zr r2.k r2.q, zr r3.k r3.q]) ⟨[.val sc, .val (.loc 0), a2, .val (.lst [.tup [.int 0, .int 1], .tup [.int t1.natAbs, .int u1], .tup [.int t2.natAbs, .int u2]]), .val (.int 1), .val (.int t2), .val (.int u2), .val (.lst L), b8, b9, b10, b11, b12, b13, a14], cs5⟩ := by
    intro b8 b9 b10 b11 b12 b13
    simp [z_lc, z_lc0, z_lc1, plainAt, g3, Blaw_e0, e3, e4, e5]
  have lcs := lcs b8 b9 b10 b11 b12 b13
  clear e3 e4 e5
  generalize zr r1.k r1.q = z1 at *
  generalize zr r2.k r2.q = z2 at *
  generalize zr r3.k r3.q = z3 at *
  have fin : ifS (andT (bnd (ixS 14 (pur (.int 0))) fun x20 => bnd (ixS 14 (pur (.int 1))) fun x21 => bnd ((T.en (l + 9)).cmp .LtE x20 x21) (T.en (l + 9)).tru) (andT (bnd (ixS 14 (pur (.int 1))) fun x18 => bnd (ixS 14 (pur (.int 2))) fun x19 => bnd ((T.en (l + 9)).cmp .LtE x18 x19) (T.en (l + 9)).tru) (notT (bnd (ixS 14 (pur (.int 0))) fun x16 => bnd (ixS 14 (pur (.int 2))) fun x17 => bnd ((T.en (l + 9)).cmp .LtE x16 x17) (T.en (l + 9)).tru)))) (seqS (bndS (pur (.bl false)) retS) nextS) nextS
      ⟨[.val sc, .val (.loc 0), a2, .val (.lst [.tup [.int 0, .int 1], .tup [.int t1.natAbs, .int u1], .tup [.int t2.natAbs, .int u2]]), .val (.int 1), .val (.int t2), .val (.int u2), .val (.lst L), b8, b9, b10, b11, b12, b13, .val (.lst [z1, z2, z3])], cs5⟩ = .nx ⟨[.val sc, .val (.loc 0), a2, .val (.lst [.tup [.int 0, .int 1], .tup [.int t1.natAbs, .int u1], .tup [.int t2.natAbs, .int u2]]), .val (.int 1), .val (.int t2), .val (.int u2), .val (.lst L), b8, b9, b10, b11, b12, b13, .val (.lst [z1, z2, z3])], cs5⟩ := by
    cases c1 <;> cases c2 <;> cases c3 <;> simp at tr <;> simp [o1, o2, o3]
  unfold Blaw_f4
  refine seq_nx (s' := ⟨[.val sc, .val (.loc 0), a2, .own (.lst [.tup [.int 0, .int 1]]), a4, a5, a6, a7, a8, a9, a10, a11, a12, a13, a14], cs⟩) (by simp [sizeLine]) ?_
  refine seq_nx (s' := ⟨[.val sc, .val (.loc 0), a2, .own (.lst [.tup [.int 0, .int 1], .tup [.int t1.natAbs, .int u1], .tup [.int t2.natAbs, .int u2]]), .val (.int 1), .val (.int t2), .val (.int u2), a7, a8, a9, a10, a11, a12, a13, a14], cs2⟩) (by
    rw [← es]
    simp [g2, -z_for1, -z_for0]) ?_
  refine seq_nx (s' := ⟨[.val sc, .val (.loc 0), a2, .val (.lst [.tup [.int 0, .int 1], .tup [.int t1.natAbs, .int u1], .tup [.int t2.natAbs, .int u2]]), .val (.int 1), .val (.int t2), .val (.int u2), .val (.lst L), a8, a9, a10, a11, a12, a13, a14], cs2⟩) (by
    simp [ev]) ?_
  refine seq_nx (s' := ⟨[.val sc, .val (.loc 0), a2, .val (.lst [.tup [.int 0, .int 1], .tup [.int t1.natAbs, .int u1], .tup [.int t2.natAbs, .int u2]]), .val (.int 1), .val (.int t2), .val (.int u2), .val (.lst L), b8, b9, b10, b11, b12, b13, a14], cs2⟩) (by
    rw [← er]
    simp [-z_for1, -z_for0]) ?_
  refine seq_nx (s' := ⟨[.val sc, .val (.loc 0), a2, .val (.lst [.tup [.int 0, .int 1], .tup [.int t1.natAbs, .int u1], .tup [.int t2.natAbs, .int u2]]), .val (.int 1), .val (.int t2), .val (.int u2), .val (.lst L), b8, b9, b10, b11, b12, b13, .val (.lst [z1, z2, z3])], cs5⟩) (by
    rw [z_bndS, lcs]
    rfl) ?_
  exact seq_nx fin rfl
theorem con_law (l : Nat) : T.conOf (T.en (l + 1)) (T.el (l + 1)) dlaw = runFn 1 15 (Blaw (T.en (l + 1))) := con_en (B := fun E _ => Blaw E) eBlaw rfl rfl rfl
theorem lawIs : ∀ ns : List Int, ns.length ≤ 63 → ∃ cs', T.conOf (T.en 9) (T.el 9) dlaw [.lst (ns.map .int)] T.cs0 = .ret (.bl true) cs' := by
  intro ns hn
  rw [con_law 8]
  have e0 : ∀ env, (T.en 9).call "_law_pen" [Dat.lst (List.map Dat.int ns)] ⟨env, T.cs0⟩ = .ret (.loc 0) ⟨env, pen T.cs0 ns 0 0⟩ := c_pen 7 ns hn
  have r8 : rangeM [.int 4] = pur (rngD 0 4) := by kernel_rfl
  obtain ⟨s', ef, a2, a3, a4, a5, a6, a7, a8, a9, a10, a11, a12, a13, a14, cs', hp, rfl⟩ := for_inv (g := asgS 2) (b := Blaw_f4 (T.en 9)) (fun n s => ∃ a2 a3 a4 a5 a6 a7 a8 a9 a10 a11 a12 a13 a14 cs, PenL (100 * n) cs ∧ s = ⟨[.val (.lst (ns.map .int)), .val (.loc 0), a2, a3, a4, a5, a6, a7, a8, a9, a10, a11, a12, a13, a14], cs⟩) 4
    (rngD 0 4) 0 ⟨[.val (.lst (ns.map .int)), .val (.loc 0), .unset, .unset, .unset, .unset, .unset, .unset, .unset, .unset, .unset, .unset, .unset, .unset, .unset], pen T.cs0 ns 0 0⟩ (by simp [rngD]) ⟨_, _, _, _, _, _, _, _, _, _, _, _, _, _, ⟨⟨ns, 0, 0, rfl, hn, by omega, by omega, by omega⟩⟩, rfl⟩ (by
      rintro d hd n s hlt ⟨a2, a3, a4, a5, a6, a7, a8, a9, a10, a11, a12, a13, a14, cs, hp, rfl⟩
      obtain ⟨b2, b3, b4, b5, b6, b7, b8, b9, b10, b11, b12, b13, b14, cs', hp', e⟩ := turn 0 hp (by omega) (.lst (ns.map .int)) (.val d) a3 a5 a6 a7 a8 a9 a10 a11 a12 a13 a14 a4
      exact ⟨_, _, rfl, e, b2, b3, b4, b5, b6, b7, b8, b9, b10, b11, b12, b13, b14, cs', hp'.mono (by omega), rfl⟩)
  refine ⟨cs', ?_⟩
  unfold runFn
  rw [if_pos (show [Dat.lst (List.map Dat.int ns)].length = 1 from rfl)]
  have si : ∀ i : Int, i.natAbs < 2 ^ 4 → Sq 4 (i : Rat) := fun i h => Sq.int h (by omega)
  have w9 := mk_walking 4 (.int 9) (si 9 (by decide)) (by omega) (by decide)
  have w0 := mk_walking 4 (.int 0) (si 0 (by decide)) (by omega) (by decide)
  have w2 := mk_walking 4 (.int 2) (si 2 (by decide)) (by omega) (by decide)
  have y2 := mk_slidewalk 1 (.int 2) (si 2 (by decide)) (by omega) (by decide)
  have sl := mk_sliding 4
  have st' := mk_still 4
  have fx := mk_fixed 4
  have z0 : Sq 4 (0 : Rat) := si 0 (by decide)
  have o1 := o_zle 3 .walking .sliding (si 9 (by decide)) z0 (by omega)
  have o2 := o_zle 3 .sliding .walking z0 (si 9 (by decide)) (by omega)
  have o3 := o_zle 3 .walking .still (si 0 (by decide)) z0 (by omega)
  have o4 := o_zle 3 .still .walking z0 (si 0 (by decide)) (by omega)
  have o5 := o_zlt 3 .still .walking z0 (si 0 (by decide)) (by omega)
  have o6 := o_zlt 3 .fixed .still z0 z0 (by omega)
  have o7 := o_zlt 3 .walking .slidewalk (si 2 (by decide)) (si 2 (by decide)) (by omega)
  rw [show letsB .sliding 0 .walking ((9 : Int) : Rat) = false by decide +kernel] at o1
  rw [show letsB .walking ((9 : Int) : Rat) .sliding 0 = false by decide +kernel] at o2
  rw [show letsB .still 0 .walking ((0 : Int) : Rat) = true by decide +kernel] at o3
  rw [show letsB .walking ((0 : Int) : Rat) .still 0 = true by decide +kernel] at o4
  rw [show (letsB .walking ((0 : Int) : Rat) .still 0 && !letsB .still 0 .walking ((0 : Int) : Rat)) = false by decide +kernel] at o5
  rw [show (letsB .still 0 .fixed 0 && !letsB .fixed 0 .still 0) = true by decide +kernel] at o6
  rw [show (letsB .slidewalk ((2 : Int) : Rat) .walking ((2 : Int) : Rat) && !letsB .walking ((2 : Int) : Rat) .slidewalk ((2 : Int) : Rat)) = true by decide +kernel] at o7
  simp only [Nat.reduceAdd] at w9 w0 w2 y2 sl st' fx o1 o2 o3 o4 o5 o6 o7
  generalize zr .walking ((9 : Int) : Rat) = x9 at *
  generalize zr .walking ((0 : Int) : Rat) = x0 at *
  generalize zr .walking ((2 : Int) : Rat) = x2 at *
  generalize zr .slidewalk ((2 : Int) : Rat) = v2 at *
  generalize zr .sliding 0 = vs at *
  generalize zr .still 0 = vt at *
  generalize zr .fixed 0 = vf at *
  simp [Blaw, e0, r8, -z_for1, -z_for0, List.replicate]
  rw [ef]
  simp [w9, w0, w2, y2, sl, st', fx, o1, o2, o3, o4, o5, o6, o7, En.notV]
end Lw

set_option maxHeartbeats 0
namespace Lw
open PySem L2 PyProof.Rows PySem.Spec ClX Zw
theorem walk : PySem.W.WalkO qv loose (PySem.W.XL qv []) (T.hook ads).says R.toRowW (HandSHeadRun.topDef R.prog 39) [] (fun f vs => PySem.call f vs) :=
  walk_text (l := PySem.Challenge.rw_zerowalks_k09_zeros_in_order) (T := T) (lv := 9) (dl := dlaw) (x := "_law_script") rfl (by kernel_rfl) ⟨⟨rfl, by decide, by decide⟩, rfl⟩ okT lamT supT (by kernel_rfl) rfl rfl (by kernel_rfl) (by kernel_rfl) (fun kV doc pm an cdv ct u => by kernel_rfl) lawIs

end Lw
open PySem PySem.W PySem.Calls PyProof.Rows
theorem PySem.Challenge.cw_zerowalks_k09_zeros_in_order_holds : PySem.Challenge.rw_zerowalks_k09_zeros_in_order.Holds := by
  w_on; o_law
  refine HandSHeadRun.head_any (r := OpenLaw.row PySem.Challenge.rw_zerowalks_k09_zeros_in_order) (q := Lw.qv) (H := Lw.T.hook Lw.ads) (ob := Lw.ob) (M := 20000) (loose := Lw.loose) (d := HandSHeadRun.topDef (OpenLaw.row PySem.Challenge.rw_zerowalks_k09_zeros_in_order).prog 39) (kwd := []) Lw.ob_eq
    (by kernel_rfl) (fun s => by kernel_rfl) Lw.run (by kernel_rfl) (by kernel_rfl) (by kernel_rfl) (by rfl) (by first | assumption | decide +kernel) (by decide +kernel) ⟨rfl, rfl, rfl, rfl, rfl, by decide +kernel⟩ ?hw ?hc
  case hw => w_witness2
  case hc => exact Lw.walk
