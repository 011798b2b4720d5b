import PyProof.Rows.All
import Wide.All
import OpenK.AllK
import Wide.FinOn
import HandS.ForMost
import HandS.More
import HandS.WordsExc
import HandS.CallSlots
import HandS.Deep
import HandS.TupAny
import HandS.Conv
import HandS.HeadHook2
import HandS.HeadHook4
import HandS.Lambda
import HandS.Wide
import HandS.TupMul
import HandS.IsInst
import PyProof.StrOps2
import HandS.Style
import KE.SortData
import HandS.ExcCtx
import HandS.Text
import HandS.Iter
import KE.GoesEnum
import HandS.HotCalls
import HandS.ExcIs
import HandS.CallLocal
import HandS.HeadWalk
import HandS.Head0
import HandS.Head1
import HandS.Head2
import HandS.HeadEnd
import HandS.Head3
import HandS.Defaults
import PySem.Challenge.RW_signpushes_k01_models_sizes_and_fillings
set_option Elab.async false
set_option linter.all false
set_option maxRecDepth 100000
set_option maxHeartbeats 0
/-! DL1: data, the world, the monad of the mirrors. -/
namespace DL
open PySem PySem.Spec L2

abbrev St := L2.St
/-- a value as data. scr: the script; fn: what the module's name stands for (a def, a class); ref: a cell of the store -/
inductive D where
  | non | bl (b : Bool) | int (i : Int) | str (cs : List Nat) | lst (xs : List D) | tup (xs : List D) | scr (ns : List Int) | fn (x : Str) | ref (i : Nat) | adr (a : Addr)

/-- a text by its codes -/
abbrev mkS (cs : List Nat) : Str := ⟨cs.toArray⟩
theorem mkS_cps (cs : List Nat) : (mkS cs).cps.toList = cs := rfl
theorem mkS_of (z : Str) : mkS z.cps.toList = z := by cases z; simp [mkS]
theorem mkS_len (cs : List Nat) : (mkS cs).length = cs.length := by
  show cs.toArray.size = cs.length
  simp

/-- what a text's codes are -/
def sOk (cs : List Nat) : Bool := decide (cs.length ≤ 16777216) && cs.all fun c => decide (c < 1114112)

/-- a cell of the store: what may change -/
inductive Cell where
  | lst (xs : List D)
  | ins (C : Str) (fs : List (Str × D))
  | dead
  | tab (x q : Str)
abbrev Store := List Cell

/-- an error: its class by the module's name, its field -/
structure Ex where
  cls : Str
  fs : List (Str × D) := []

inductive R (α : Type) where
  | ok (a : α) (s : Store)
  | exc (e : Ex) (s : Store)
  | stuck
def M (α : Type) := Store → R α
namespace M
variable {α β γ : Type}
def pure (a : α) : M α := fun s => .ok a s
def bind (m : M α) (f : α → M β) : M β := fun s => match m s with
  | .ok a s' => f a s'
  | .exc e s' => .exc e s'
  | .stuck => .stuck
def stuck : M α := fun _ => .stuck
def throw (e : Ex) : M α := fun s => .exc e s
end M
instance : Monad M where
  pure := M.pure
  bind := M.bind
section
variable {α β γ : Type}
theorem M.pure_eq (a : α) : (Pure.pure a : M α) = M.pure a := rfl
theorem M.bind_eq (m : M α) (f : α → M β) : m >>= f = M.bind m f := rfl
@[simp] theorem M.pure_bind (a : α) (f : α → M β) : (Pure.pure a : M α) >>= f = f a := rfl
@[simp] theorem M.stuck_bind (f : α → M β) : (M.stuck : M α) >>= f = M.stuck := rfl
@[simp] theorem M.throw_bind (e : Ex) (f : α → M β) : (M.throw e : M α) >>= f = M.throw e := rfl
@[simp] theorem M.bind_pure (m : M α) : m >>= Pure.pure = m := by
  funext s
  show (match m s with | .ok a s' => .ok a s' | .exc e s' => .exc e s' | .stuck => .stuck) = m s
  cases m s <;> rfl
@[simp] theorem M.bind_assoc (m : M α) (f : α → M β) (g : β → M γ) : (m >>= f) >>= g = m >>= fun x => f x >>= g := by
  funext s
  show (match (match m s with | .ok a s' => f a s' | .exc e s' => .exc e s' | .stuck => .stuck : R β) with | .ok a s' => g a s' | .exc e s' => .exc e s' | .stuck => .stuck) =
    (match m s with | .ok a s' => (match f a s' with | .ok a s' => g a s' | .exc e s' => .exc e s' | .stuck => .stuck) | .exc e s' => .exc e s' | .stuck => .stuck : R γ)
  cases m s <;> rfl
end

/-- the world of a frame: where the store's cells stand, and the addresses that no (frozen) datum leans on -/
structure Wd where
  mu : List Addr
  U : Addr → Prop

section
variable (K : PySem.W.Frag) (W : Wd) (H : Hp)
mutual
/-- the value stands for the datum -/
def Rep : V → D → Prop
  | v, .non => v = .non
  | v, .bl b => v = .bl b
  | v, .int i => v = .int i
  | v, .str cs => v = .str (mkS cs) ∧ sOk cs = true
  | v, .lst xs => ∃ a vs, v = .ref a ∧ ¬ W.U a ∧ H a = some (.lst vs) ∧ xs.length ≤ 16777216 ∧ Reps vs xs
  | v, .tup xs => ∃ a vs, v = .ref a ∧ ((¬ W.U a ∧ H a = some (.tup vs)) ∨ SqT K (fun _ => none) a vs) ∧ xs.length ≤ 16777216 ∧ Reps vs xs
  | v, .scr ns => ∃ a, v = .ref a ∧ ((¬ W.U a ∧ ∃ o, (o = .lst (ns.map V.int) ∨ ∃ ob, o = .frz ob (.lst (ns.map V.int))) ∧ H a = some o) ∨ SqL K (fun _ => none) a (ns.map V.int))
  | v, .fn x => v = .ref (He.ga K x)
  | v, .adr a => v = .ref a
  | v, .ref i => ∃ a, v = .ref a ∧ W.mu[i]? = some a
def Reps : List V → List D → Prop
  | vs, [] => vs = []
  | vs, d :: ds => ∃ v r, vs = v :: r ∧ Rep v d ∧ Reps r ds
end
end
end DL
/-! DL2: the world's changes, the store, the slots, the judgements. -/
namespace DL
open PySem PySem.Spec L2

structure Ext (W W' : Wd) (H H' : Hp) : Prop where
  mu : ∃ t, W'.mu = W.mu ++ t ∧ ∀ a ∈ t, H a = none
  u0 : ∀ a o, W.U a → a ∉ W.mu → H a = some o → W'.U a
  new : ∀ a, W'.U a → W.U a ∨ H a = none
  keep : ∀ a o, (W.U a → a ∉ W.mu) → H a = some o → H' a = some o
  dom : ∀ a o, H a = some o → ∃ o', H' a = some o'
section
variable {K : PySem.W.Frag} {W W' W'' W1 W2 : Wd} {H H' H'' H1 H2 : Hp} {v : V} {d : D} {vs : List V} {ds : List D}
theorem Ext.refl : Ext W W H H := ⟨⟨[], by simp, by simp⟩, fun _ _ h _ _ => h, fun _ h => .inl h, fun _ _ _ h => h, fun _ o h => ⟨o, h⟩⟩
theorem Ext.rfl' : Ext W W H H := Ext.refl
theorem Ext.memMu (e : Ext W W' H H') {a : Addr} (h : a ∈ W'.mu) : a ∈ W.mu ∨ H a = none := by
  obtain ⟨t, e1, e2⟩ := e.mu
  rw [e1] at h
  rcases List.mem_append.mp h with h | h
  · exact .inl h
  · exact .inr (e2 a h)
theorem Ext.inMu (e : Ext W W' H H') {a : Addr} (h : a ∈ W.mu) : a ∈ W'.mu := by
  obtain ⟨t, e1, e2⟩ := e.mu
  rw [e1]
  exact List.mem_append_left _ h
theorem Ext.free (e : Ext W W' H H') {a : Addr} (h : H' a = Option.none) : H a = Option.none := by
  cases q : H a with
  | none => rfl
  | some o =>
    obtain ⟨o', z⟩ := e.dom a o q
    rw [h] at z
    cases z
theorem Ext.trans (e1 : Ext W W1 H H1) (e2 : Ext W1 W2 H1 H2) : Ext W W2 H H2 := by
  refine ⟨?_, fun x o hu hm h => ?_, fun x h => ?_, fun x o hu h => ?_, fun x o h => ?_⟩
  · obtain ⟨t, m1, n1⟩ := e1.mu
    obtain ⟨t', m2, n2⟩ := e2.mu
    refine ⟨t ++ t', by rw [m2, m1, List.append_assoc], fun x hx => ?_⟩
    rcases List.mem_append.mp hx with hx | hx
    · exact n1 x hx
    · exact e1.free (n2 x hx)
  · have h1 := e1.keep x o (fun _ => hm) h
    refine e2.u0 x o (e1.u0 x o hu hm h) (fun q => ?_) h1
    rcases e1.memMu q with z | z
    · exact hm z
    · rw [h] at z; cases z
  · rcases e2.new x h with q | q
    · exact e1.new x q
    · exact .inr (e1.free q)
  · have h1 := e1.keep x o hu h
    refine e2.keep x o (fun q m => ?_) h1
    rcases e1.new x q with z | z
    · rcases e1.memMu m with y | y
      · exact hu z y
      · rw [h] at y; cases y
    · rw [h] at z; cases z
  · obtain ⟨o', q⟩ := e1.dom x o h
    exact e2.dom x o' q

theorem Ext.at (e : Ext W W' H H') {a : Addr} {o : HO} (nu : ¬ W.U a) (h : H a = some o) : ¬ W'.U a ∧ H' a = some o := by
  refine ⟨fun z => ?_, e.keep a o (fun z => absurd z nu) h⟩
  rcases e.new a z with z | z
  · exact nu z
  · rw [h] at z
    cases z
mutual
theorem Rep.ext (e : Ext W W' H H') : ∀ (d : D) (v : V), Rep K W H v d → Rep K W' H' v d
  | .non, _, h => h
  | .bl _, _, h => h
  | .int _, _, h => h
  | .str _, _, h => h
  | .lst xs, _, h => by
    obtain ⟨a, vs, rfl, nu, ha, hz, r⟩ := h
    obtain ⟨n1, n2⟩ := e.at nu ha
    exact ⟨a, vs, rfl, n1, n2, hz, Reps.ext e xs vs r⟩
  | .tup xs, _, h => by
    obtain ⟨a, vs, rfl, h1, hz, r⟩ := h
    refine ⟨a, vs, rfl, ?_, hz, Reps.ext e xs vs r⟩
    rcases h1 with ⟨nu, ha⟩ | h1
    · exact .inl (e.at nu ha)
    · exact .inr h1
  | .scr ns, _, h => by
    obtain ⟨a, rfl, h1⟩ := h
    refine ⟨a, rfl, ?_⟩
    rcases h1 with ⟨nu, o, ho, ha⟩ | h1
    · obtain ⟨n1, n2⟩ := e.at nu ha
      exact .inl ⟨n1, o, ho, n2⟩
    · exact .inr h1
  | .fn _, _, h => h
  | .adr _, _, h => h
  | .ref i, _, h => by
    obtain ⟨a, rfl, h⟩ := h
    obtain ⟨t, m, _⟩ := e.mu
    refine ⟨a, rfl, ?_⟩
    rw [m, List.getElem?_append_left (List.getElem?_eq_some_iff.mp h).1]
    exact h
theorem Reps.ext (e : Ext W W' H H') : ∀ (ds : List D) (vs : List V), Reps K W H vs ds → Reps K W' H' vs ds
  | [], _, h => h
  | d :: ds, _, h => by
    obtain ⟨v, r, rfl, h1, h2⟩ := h
    exact ⟨v, r, rfl, Rep.ext e d v h1, Reps.ext e ds r h2⟩
end

/-! ### lists of values -/
theorem Reps.length : ∀ {ds : List D} {vs : List V}, Reps K W H vs ds → vs.length = ds.length
  | [], _, h => by
    have h' : _ = [] := h
    rw [h']; rfl
  | d :: ds, _, h => by
    obtain ⟨v, r, rfl, _, h2⟩ := h
    rw [List.length_cons, List.length_cons, Reps.length h2]
theorem Reps.nil : Reps K W H [] [] := rfl
theorem Reps.cons (h1 : Rep K W H v d) (h2 : Reps K W H vs ds) : Reps K W H (v :: vs) (d :: ds) := ⟨v, vs, rfl, h1, h2⟩
theorem Reps.uncons (h : Reps K W H vs (d :: ds)) : ∃ v r, vs = v :: r ∧ Rep K W H v d ∧ Reps K W H r ds := h
theorem Reps.get : ∀ {ds : List D} {vs : List V} {i : Nat} {d : D}, Reps K W H vs ds → ds[i]? = some d → ∃ v, vs[i]? = some v ∧ Rep K W H v d
  | [], _, _, _, _, e => by simp at e
  | _ :: _, _, 0, _, h, e => by
    obtain ⟨v, r, rfl, h1, _⟩ := h
    simp at e; subst e
    exact ⟨v, rfl, h1⟩
  | _ :: ds, _, i + 1, d, h, e => by
    obtain ⟨v, r, rfl, _, h2⟩ := h
    obtain ⟨w, q1, q2⟩ := Reps.get (i := i) (d := d) h2 (by simpa using e)
    exact ⟨w, by simpa using q1, q2⟩
theorem Reps.append : ∀ {ds es : List D} {vs ws : List V}, Reps K W H vs ds → Reps K W H ws es → Reps K W H (vs ++ ws) (ds ++ es)
  | [], _, _, _, h, h' => by
    have q : _ = [] := h
    rw [q]; exact h'
  | d :: ds, es, _, _, h, h' => by
    obtain ⟨v, r, rfl, h1, h2⟩ := h
    exact ⟨v, _, rfl, h1, Reps.append h2 h'⟩
theorem Reps.take : ∀ {ds : List D} {vs : List V} (n : Nat), Reps K W H vs ds → Reps K W H (vs.take n) (ds.take n)
  | _, _, 0, _ => rfl
  | [], _, n + 1, h => by
    have q : _ = [] := h
    rw [q]; rfl
  | d :: ds, _, n + 1, h => by
    obtain ⟨v, r, rfl, h1, h2⟩ := h
    exact ⟨v, _, rfl, h1, Reps.take n h2⟩
theorem Reps.drop : ∀ {ds : List D} {vs : List V} (n : Nat), Reps K W H vs ds → Reps K W H (vs.drop n) (ds.drop n)
  | _, _, 0, h => h
  | [], _, n + 1, h => by
    have q : _ = [] := h
    rw [q]; rfl
  | d :: ds, _, n + 1, h => by
    obtain ⟨v, r, rfl, h1, h2⟩ := h
    exact Reps.drop n h2
theorem Reps.set : ∀ {ds : List D} {vs : List V} (n : Nat), Rep K W H v d → Reps K W H vs ds → Reps K W H (vs.set n v) (ds.set n d)
  | [], _, n, _, h => by
    have q : _ = [] := h
    rw [q]; rfl
  | e :: ds, _, 0, h0, h => by
    obtain ⟨v', r, rfl, h1, h2⟩ := h
    exact ⟨v, _, rfl, h0, h2⟩
  | e :: ds, _, n + 1, h0, h => by
    obtain ⟨v', r, rfl, h1, h2⟩ := h
    exact ⟨v', _, rfl, h1, Reps.set n h0 h2⟩
theorem Reps.reverse : ∀ {ds : List D} {vs : List V}, Reps K W H vs ds → Reps K W H vs.reverse ds.reverse
  | [], _, h => by
    have q : _ = [] := h
    rw [q]; rfl
  | d :: ds, _, h => by
    obtain ⟨v, r, rfl, h1, h2⟩ := h
    rw [List.reverse_cons, List.reverse_cons]
    exact (Reps.reverse h2).append (.cons h1 .nil)
/-- data of one plain kind -/
theorem Reps.ints : ∀ {ns : List Int} {vs : List V}, Reps K W H vs (ns.map D.int) → vs = ns.map V.int
  | [], _, h => h
  | n :: ns, _, h => by
    obtain ⟨v, r, rfl, h1, h2⟩ := h
    have h1' : v = .int n := h1
    rw [h1', Reps.ints h2]; rfl
theorem Reps.bls : ∀ {ns : List Bool} {vs : List V}, Reps K W H vs (ns.map D.bl) → vs = ns.map V.bl
  | [], _, h => h
  | n :: ns, _, h => by
    obtain ⟨v, r, rfl, h1, h2⟩ := h
    have h1' : v = .bl n := h1
    rw [h1', Reps.bls h2]; rfl
theorem Reps.strs : ∀ {ns : List (List Nat)} {vs : List V}, Reps K W H vs (ns.map D.str) → vs = (ns.map mkS).map V.str
  | [], _, h => h
  | n :: ns, _, h => by
    obtain ⟨v, r, rfl, h1, h2⟩ := h
    obtain ⟨h1', _⟩ : v = .str (mkS n) ∧ sOk n = true := h1
    rw [h1', Reps.strs h2]; rfl
theorem Reps.ofInts : ∀ (ns : List Int), Reps K W H (ns.map V.int) (ns.map D.int)
  | [] => rfl
  | n :: ns => ⟨_, _, rfl, rfl, Reps.ofInts ns⟩
theorem Reps.ofBls : ∀ (ns : List Bool), Reps K W H (ns.map V.bl) (ns.map D.bl)
  | [] => rfl
  | n :: ns => ⟨_, _, rfl, rfl, Reps.ofBls ns⟩
theorem Reps.ofStrs : ∀ (ns : List (List Nat)), (∀ n ∈ ns, sOk n = true) → Reps K W H ((ns.map mkS).map V.str) (ns.map D.str)
  | [], _ => rfl
  | n :: ns, h => ⟨_, _, rfl, ⟨rfl, h n List.mem_cons_self⟩, Reps.ofStrs ns fun m hm => h m (List.mem_cons_of_mem _ hm)⟩
theorem Reps.strOk : ∀ {ns : List (List Nat)} {vs : List V}, Reps K W H vs (ns.map D.str) → ∀ n ∈ ns, sOk n = true
  | [], _, _, _, h => nomatch h
  | n :: ns, _, h, m, hm => by
    obtain ⟨v, r, rfl, h1, h2⟩ := h
    rcases List.mem_cons.mp hm with e | hm
    · rw [e]; exact h1.2
    · exact Reps.strOk h2 m hm
theorem sOk_iff {cs : List Nat} : sOk cs = true ↔ cs.length ≤ 16777216 ∧ ∀ c ∈ cs, c < 1114112 := by
  unfold sOk
  rw [Bool.and_eq_true, decide_eq_true_eq, List.all_eq_true]
  simp
theorem Rep.tupLen {ds : List D} (h : Rep K W H v (.tup ds)) : ds.length ≤ 16777216 := by
  obtain ⟨a, vs, _, _, hz, _⟩ := h
  exact hz
theorem Rep.lstLen {ds : List D} (h : Rep K W H v (.lst ds)) : ds.length ≤ 16777216 := by
  obtain ⟨a, vs, _, _, _, hz, _⟩ := h
  exact hz
/-- a tuple to be read -/
theorem Rep.tupSq {ds : List D} (h : Rep K W H v (.tup ds)) : ∃ a vs, v = .ref a ∧ SqT K H a vs ∧ Reps K W H vs ds := by
  obtain ⟨a, vs, rfl, h1, _, r⟩ := h
  refine ⟨a, vs, rfl, ?_, r⟩
  rcases h1 with ⟨_, h1⟩ | h1
  · exact SqT.of h1
  · rcases h1 with h1 | h1
    · rcases h1 with h1 | ⟨o, h1⟩ <;> cases h1
    · exact .inr h1
theorem Rep.scrSq {ns : List Int} (h : Rep K W H v (.scr ns)) : ∃ a, v = .ref a ∧ SqL K H a (ns.map V.int) := by
  obtain ⟨a, rfl, h1⟩ := h
  refine ⟨a, rfl, ?_⟩
  rcases h1 with ⟨_, o, ho, h1⟩ | h1
  · rcases ho with ho | ⟨ob, ho⟩
    · subst ho; exact .inl (.inl h1)
    · subst ho; exact .inl (.inr ⟨ob, h1⟩)
  · rcases h1 with h1 | h1
    · rcases h1 with h1 | ⟨o, h1⟩ <;> cases h1
    · exact .inr h1

/-! ### the store -/
/-- the fields of an instance -/
def FsOk (K : PySem.W.Frag) (W : Wd) (H : Hp) : List (Str × V) → List (Str × D) → Prop
  | vfs, [] => vfs = []
  | vfs, (x, d) :: fs => ∃ v r, vfs = (x, v) :: r ∧ Rep K W H v d ∧ FsOk K W H r fs
theorem FsOk.ext (e : Ext W W' H H') : ∀ {fs : List (Str × D)} {vfs : List (Str × V)}, FsOk K W H vfs fs → FsOk K W' H' vfs fs
  | [], _, h => h
  | (x, d) :: fs, _, h => by
    obtain ⟨v, r, rfl, h1, h2⟩ := h
    exact ⟨v, r, rfl, h1.ext e, FsOk.ext e h2⟩
def CellOk (K : PySem.W.Frag) (W : Wd) (H : Hp) (a : Addr) : Cell → Prop
  | .lst xs => W.U a ∧ ∃ vs, H a = some (.lst vs) ∧ xs.length ≤ 16777216 ∧ Reps K W H vs xs
  | .ins C fs => W.U a ∧ ∃ dx vfs, H a = some (.ins (He.ga K C) dx vfs) ∧ FsOk K W H vfs fs
  | .dead => True
  | .tab x q => W.U a ∧ a = (He.cT K (x, none)).2 ∧ ∃ ps : Array Value, H a = some (.tbl ps) ∧ TriplesOk ps.toList ∧ ∀ (pos : Pos) (cv : Value), codeAmong pos ps.toList = some cv → ∃ c, cv = .ref c ∧ ¬ W.U c ∧ H c = some (LamX.CodeO c q)
structure Holds (K : PySem.W.Frag) (W : Wd) (H : Hp) (st : Store) : Prop where
  len : W.mu.length = st.length
  nd : W.mu.Nodup
  dom : ∀ a, W.U a → ∃ o, H a = some o
  muAt : ∀ a ∈ W.mu, ∃ o, H a = some o
  cell : ∀ (i : Nat) (c : Cell) (a : Addr), st[i]? = some c → W.mu[i]? = some a → CellOk K W H a c
theorem Holds.fresh {st : Store} (h : Holds K W H st) {a : Addr} (q : H a = none) : ¬ W.U a := fun z => by
  obtain ⟨o, e⟩ := h.dom a z
  rw [q] at e; cases e
theorem Holds.muDom {st : Store} (h : Holds K W H st) (a : Addr) (q : H a = none) : a ∉ W.mu := fun z => by
  obtain ⟨o, e⟩ := h.muAt a z
  rw [q] at e; cases e
/-- an error as it lies -/
def ExIs (K : PySem.W.Frag) (W : Wd) (H : Hp) (x : Ex) (C : Value) (d : Option Addr) : Prop :=
  C = .ref (He.ga K x.cls) ∧ ((x.fs = [] ∧ d = none) ∨ x.fs ≠ [] ∧ ∃ a vfs, d = some a ∧ ¬ W.U a ∧ H a = some (.xd vfs) ∧ FsOk K W H vfs x.fs)

def After {α : Type} (K : PySem.W.Frag) (W : Wd) (H : Hp) (E : XK) (r : R α) (k : α → Wd → Hp → Store → Prop) : Prop := match r with
  | .ok a st' => ∀ W' H', Ext W W' H H' → Holds K W' H' st' → k a W' H' st'
  | .exc x st' => ∀ W' H' C d, Ext W W' H H' → Holds K W' H' st' → ExIs K W' H' x C d → E C d H'
  | .stuck => False
section
variable {α β : Type} {E E' : XK} {st : Store} {r : R α} {k k' : α → Wd → Hp → Store → Prop}
theorem After.mono (h : After K W H E r k) (f : ∀ a W' H' st', r = .ok a st' → Ext W W' H H' → Holds K W' H' st' → k a W' H' st' → k' a W' H' st') : After K W H E r k' := by
  cases r with
  | ok a s => exact fun W' H' e hh => f a W' H' s rfl e hh (h W' H' e hh)
  | exc x s => exact h
  | stuck => exact h
theorem After.bind {m : M α} {f : α → M β} {k : β → Wd → Hp → Store → Prop} (h : After K W H E ((m >>= f) st) k) : After K W H E (m st) fun x W' H' st' => After K W' H' E (f x st') k := by
  have h' : After K W H E (match m st with | .ok a s' => f a s' | .exc e s' => .exc e s' | .stuck => .stuck) k := h
  cases q : m st with
  | ok x s =>
    rw [q] at h'
    intro W1 H1 e1 h1
    show After K W1 H1 E (f x s) k
    cases q2 : f x s with
    | ok y s2 =>
      have h'' : After K W H E (f x s) k := h'
      rw [q2] at h''
      exact fun W2 H2 e2 h2 => h'' W2 H2 (e1.trans e2) h2
    | exc y s2 =>
      have h'' : After K W H E (f x s) k := h'
      rw [q2] at h''
      exact fun W2 H2 C d e2 h2 => h'' W2 H2 C d (e1.trans e2) h2
    | stuck =>
      have h'' : After K W H E (f x s) k := h'
      rw [q2] at h''
      exact h''
  | exc x s =>
    rw [q] at h'
    exact fun W' H' C d e1 => h' W' H' C d e1
  | stuck =>
    rw [q] at h'
    exact h'
theorem After.shift {r : R α} {k : α → Wd → Hp → Store → Prop} (h : After K W H E r k) (e : Ext W W' H H') : After K W' H' E r k := by
  cases r with
  | ok a s => exact fun W2 H2 e2 hh => h W2 H2 (e.trans e2) hh
  | exc x s => exact fun W2 H2 C d e2 hh => h W2 H2 C d (e.trans e2) hh
  | stuck => exact h
theorem After.pure' {a : α} {k : α → Wd → Hp → Store → Prop} (h : After K W H E ((pure a : M α) st) k) (hh : Holds K W H st) : k a W H st := h W H Ext.refl hh
end
end
end DL
/-! DL3: the slots, the judgements, the first rules. -/
namespace DL
open PySem PySem.Spec L2

/-- a slot as a datum: not known; a datum -/
inductive Sl where
  | none | val (d : D)

structure Slots (K : PySem.W.Frag) (W : Wd) (H : Hp) (σd : List Sl) (σ : St) : Prop where
  len : σ.length = σd.length
  val : ∀ (i : Nat) (d : D), σd[i]? = some (.val d) → ∃ v, σ[i]? = some (some v) ∧ Rep K W H v d
section
variable {K : PySem.W.Frag} {W W' : Wd} {H H' : Hp} {σd : List Sl} {σ : St} {st : Store}
/-- behind an expression -/
theorem Slots.ext (s : Slots K W H σd σ) (e : Ext W W' H H') : Slots K W' H' σd σ where
  len := s.len
  val := fun i d q => let ⟨v, h1, h2⟩ := s.val i d q; ⟨v, h1, h2.ext e⟩
/-- less is known -/
theorem Slots.weak {τd : List Sl} (s : Slots K W H σd σ) (hl : τd.length = σd.length) (h : ∀ (i : Nat) (x : Sl), τd[i]? = some x → x = .none ∨ σd[i]? = some x) : Slots K W H τd σ where
  len := s.len.trans hl.symm
  val := fun i d q => by
    rcases h i _ q with z | z
    · cases z
    · exact s.val i d z
end

/-! ### the judgements -/
abbrev Fin (K : PySem.W.Frag) (W : Wd) (H : Hp) (E : XK) (r : R D) (Q : VK) : Prop := After K W H E r fun d W' H' _ => ∀ v, Rep K W' H' v d → Q v H'
def tD (K : PySem.W.Frag) (σd : List Sl) (E : St → XK) (m : M D) : TE := fun σ H Q => ∃ (W : Wd) (st : Store), Holds K W H st ∧ Slots K W H σd σ ∧ Fin K W H (E σ) (m st) Q
def tDT (K : PySem.W.Frag) (σd : List Sl) (E : St → XK) (m : M Bool) : TT := fun σ H Q => ∃ (W : Wd) (st : Store), Holds K W H st ∧ Slots K W H σd σ ∧ After K W H (E σ) (m st) fun b W' H' _ => Q b H'
def tDA (K : PySem.W.Frag) (σd : List Sl) (E : St → XK) (m : M (List D)) : TA := fun σ H Q => ∃ (W : Wd) (st : Store), Holds K W H st ∧ Slots K W H σd σ ∧ After K W H (E σ) (m st) fun ds W' H' _ => ∀ vs, Reps K W' H' vs ds → Q vs H'
structure DE (X : Cx) (E : St → XK) (σd : List Sl) (e : Expr) (m : M D) : Prop where
  pe : PE X e (tD X.K σd E m)
structure DT (X : Cx) (E : St → XK) (σd : List Sl) (e : Expr) (m : M Bool) : Prop where
  pt : PT X e (tDT X.K σd E m)
structure DA (X : Cx) (E : St → XK) (σd : List Sl) (es : List Expr) (m : M (List D)) : Prop where
  pa : PA X es (tDA X.K σd E m)
theorem pe_imp {X : Cx} {e : Expr} {t t' : TE} (h : PE X e t) (f : ∀ σ H Q, t' σ H Q → t σ H Q) : PE X e t' := ⟨fun pins s σ H Q I q => h.run pins s σ H Q I (f σ H Q q)⟩
theorem pt_imp {X : Cx} {e : Expr} {t t' : TT} (h : PT X e t) (f : ∀ σ H Q, t' σ H Q → t σ H Q) : PT X e t' := ⟨fun pins s σ H Q I q => h.run pins s σ H Q I (f σ H Q q)⟩
theorem pa_imp {X : Cx} {e : List Expr} {t t' : TA} (h : PA X e t) (f : ∀ σ H Q, t' σ H Q → t σ H Q) : PA X e t' := ⟨fun p pins s σ H Q I q => h.run p pins s σ H Q I (f σ H Q q)⟩

section
variable {K : PySem.W.Frag} {W W' : Wd} {H H' : Hp} {σd : List Sl} {σ : St} {st : Store} {E : XK} {Q : VK} {d : D} {v : V} {xs : List D} {vs : List V} {p : Addr}
/-- expressions in a row -/
theorem After.next {α β : Type} {m : M α} {f : α → M β} {k : β → Wd → Hp → Store → Prop} (hs : Slots K W H σd σ) (hh : Holds K W H st) (h : After K W H E ((m >>= f) st) k) :
    After K W H E (m st) fun x W' H' st' => Ext W W' H H' ∧ Holds K W' H' st' ∧ Slots K W' H' σd σ ∧ After K W' H' E (f x st') k :=
  After.mono (After.bind h) fun x W' H' st' _ e hh' q => ⟨e, hh', hs.ext e, q⟩
theorem Fin.ret (h : Fin K W H E (.ok d st) Q) (hh : Holds K W H st) (r : Rep K W H v d) : Q v H := h W H Ext.rfl' hh v r
theorem Ext.new1 {o : HO} (hp : H p = none) : Ext W W H (upd H p o) where
  mu := ⟨[], by simp, by simp⟩
  u0 := fun _ _ z _ _ => z
  new := fun _ z => .inl z
  keep := fun a o' _ q => by rw [upd_ne (ne_of_none q hp)]; exact q
  dom := fun a o' q => ⟨o', by rw [upd_ne (ne_of_none q hp)]; exact q⟩
theorem CellOk.ext {a : Addr} {c : Cell} (e : Ext W W' H H') (h : ∀ o, H a = some o → H' a = some o) (u : W.U a → W'.U a) (x : CellOk K W H a c) : CellOk K W' H' a c := by
  cases c with
  | lst xs => obtain ⟨u1, vs, h1, hz, h2⟩ := x; exact ⟨u u1, vs, h _ h1, hz, h2.ext e⟩
  | ins C fs => obtain ⟨u1, dx, vfs, h1, h2⟩ := x; exact ⟨u u1, dx, vfs, h _ h1, FsOk.ext e h2⟩
  | dead => trivial
  | tab y q =>
    obtain ⟨u1, e1, ps, h1, h2, h3⟩ := x
    exact ⟨u u1, e1, ps, h _ h1, h2, fun pos cv hc => let ⟨c, q1, q2, q3⟩ := h3 pos cv hc; ⟨c, q1, (e.at q2 q3).1, (e.at q2 q3).2⟩⟩
theorem Holds.new1 {o : HO} (hh : Holds K W H st) (hp : H p = none) : Holds K W (upd H p o) st where
  len := hh.len
  nd := hh.nd
  dom := fun a z => let ⟨o', q⟩ := hh.dom a z; ⟨o', by rw [upd_ne (ne_of_none q hp)]; exact q⟩
  muAt := fun a z => let ⟨o', q⟩ := hh.muAt a z; ⟨o', by rw [upd_ne (ne_of_none q hp)]; exact q⟩
  cell := fun i c a h1 h2 => (hh.cell i c a h1 h2).ext (Ext.new1 hp) (fun o' q => by rw [upd_ne (ne_of_none q hp)]; exact q) id
theorem Rep.newL (hh : Holds K W H st) (hp : H p = none) (r : Reps K W H vs xs) (hz : xs.length ≤ 16777216) : Rep K W (upd H p (.lst vs)) (.ref p) (.lst xs) := ⟨p, vs, rfl, hh.fresh hp, upd_same, hz, r.ext (Ext.new1 hp)⟩
theorem Rep.newT (hh : Holds K W H st) (hp : H p = none) (r : Reps K W H vs xs) (hz : xs.length ≤ 16777216) : Rep K W (upd H p (.tup vs)) (.ref p) (.tup xs) := ⟨p, vs, rfl, .inl ⟨hh.fresh hp, upd_same⟩, hz, r.ext (Ext.new1 hp)⟩
theorem Fin.newL (h : Fin K W H E (.ok (.lst xs) st) Q) (hh : Holds K W H st) (hp : H p = none) (r : Reps K W H vs xs) (hz : xs.length ≤ 16777216) : Q (.ref p) (upd H p (.lst vs)) := h W _ (Ext.new1 hp) (hh.new1 hp) _ (Rep.newL hh hp r hz)
theorem Fin.newT (h : Fin K W H E (.ok (.tup xs) st) Q) (hh : Holds K W H st) (hp : H p = none) (r : Reps K W H vs xs) (hz : xs.length ≤ 16777216) : Q (.ref p) (upd H p (.tup vs)) := h W _ (Ext.new1 hp) (hh.new1 hp) _ (Rep.newT hh hp r hz)
end

section
variable {X : Cx} {E : St → XK} {σd : List Sl} {a b c : Expr} {ma mb mc : M D} {pos : Pos}
/-! ### names, constants -/
theorem de_var {x : Str} {d : D} (i : Nat) (h : σd[i]? = some (.val d)) (hN : X.N[i]? = some x) (hv : Vis X.env.scope x) (hd : (x == ("__debug__" : Str)) = false) (hcd : (x == ("__classdict__" : Str)) = false) : DE X E σd (.Name x pos) (pure d) :=
  ⟨pe_imp (pe_var hN hv hd hcd) fun σ H Q ⟨W, st, hh, hs, h1⟩ => by
    obtain ⟨v, q1, q2⟩ := hs.val i d h
    exact ⟨v, q1, Fin.ret h1 hh q2⟩⟩
theorem de_const {e : Expr} {v : V} {d : D} (h : PE X e (tC v)) (r : ∀ W H, Rep X.K W H v d) : DE X E σd e (pure d) :=
  ⟨pe_imp h fun σ H Q ⟨W, st, hh, hs, h1⟩ => Fin.ret h1 hh (r W H)⟩
theorem de_int {i : Int} {j : Nat} : DE X E σd (.Constant (.int i) j pos) (pure (.int i)) := de_const pe_int fun _ _ => rfl
theorem de_bl {i : Bool} {j : Nat} : DE X E σd (.Constant (.bool i) j pos) (pure (.bl i)) := de_const pe_bl fun _ _ => rfl
theorem de_non {j : Nat} : DE X E σd (.Constant .none j pos) (pure .non) := de_const pe_non fun _ _ => rfl
theorem de_str {x : Str} {j : Nat} {cs : List Nat} (h : x = mkS cs) (ho : sOk cs = true) : DE X E σd (.Constant (.str x) j pos) (pure (.str cs)) := de_const pe_str fun _ _ => ⟨by rw [h], ho⟩
/-- a module's name -/
theorem de_fn {x : Str} (hg : Gl X x) (hm : X.mg x = some (.ref (He.ga X.K x))) (hd : (x == ("__debug__" : Str)) = false) : DE X E σd (.Name x pos) (pure (.fn x)) := de_const (pe_glob hg hm (v := .ref (He.ga X.K x)) rfl hd) fun _ _ => rfl
theorem de_gint {x : Str} {i : Int} (hg : Gl X x) (hm : ∃ t, X.mg x = some (.int i t)) (hd : (x == ("__debug__" : Str)) = false) : DE X E σd (.Name x pos) (pure (.int i)) := by
  obtain ⟨t, hm⟩ := hm
  exact de_const (pe_glob hg hm (v := .int i) ⟨t, rfl⟩ hd) fun _ _ => rfl
theorem de_gstr {x z : Str} {cs : List Nat} (hg : Gl X x) (hm : ∃ t, X.mg x = some (.str z t)) (hz : z = mkS cs) (ho : sOk cs = true) (hd : (x == ("__debug__" : Str)) = false) : DE X E σd (.Name x pos) (pure (.str cs)) := by
  obtain ⟨t, hm⟩ := hm
  exact de_const (pe_glob hg hm (v := .str z) ⟨t, rfl⟩ hd) fun _ _ => ⟨by rw [hz], ho⟩
/-- a module's name of data -/
theorem de_gdat {x : Str} {d : D} {v : V} {u : Value} (hg : Gl X x) (hm : X.mg x = some u) (r : RelV v u) (hd : (x == ("__debug__" : Str)) = false) (rd : ∀ W H, Rep X.K W H v d) : DE X E σd (.Name x pos) (pure d) := de_const (pe_glob hg hm r hd) rd

/-! ### reading one, two values -/
theorem tD_run {ma : M D} {β : Type} {f : D → M β} {σ : St} {H : Hp} {k : β → Wd → Hp → Store → Prop} {W : Wd} {st : Store} {Q : VK} {K : PySem.W.Frag} (hh : Holds K W H st) (hs : Slots K W H σd σ) (h : After K W H (E σ) ((ma >>= f) st) k)
    (g : ∀ d v W' H' st', Ext W W' H H' → Holds K W' H' st' → Slots K W' H' σd σ → Rep K W' H' v d → After K W' H' (E σ) (f d st') k → Q v H') : tD K σd E ma σ H Q :=
  ⟨W, st, hh, hs, (After.next hs hh h).mono fun d W' H' st' _ _ _ ⟨e, h1, h2, h3⟩ v r => g d v W' H' st' e h1 h2 r h3⟩
theorem tDT_run {ma : M Bool} {β : Type} {f : Bool → M β} {σ : St} {H : Hp} {k : β → Wd → Hp → Store → Prop} {W : Wd} {st : Store} {Q : Bool → Hp → Prop} {K : PySem.W.Frag} (hh : Holds K W H st) (hs : Slots K W H σd σ) (h : After K W H (E σ) ((ma >>= f) st) k)
    (g : ∀ d W' H' st', Ext W W' H H' → Holds K W' H' st' → Slots K W' H' σd σ → After K W' H' (E σ) (f d st') k → Q d H') : tDT K σd E ma σ H Q :=
  ⟨W, st, hh, hs, (After.next hs hh h).mono fun d W' H' st' _ _ _ ⟨e, h1, h2, h3⟩ => g d W' H' st' e h1 h2 h3⟩

/-- an operation on two values -/
def RD (K : PySem.W.Frag) (r : R2) (f : D → D → M D) : Prop := ∀ (W : Wd) (H : Hp) (st : Store) (x y : V) (dx dy : D) (Q : VK) (E : XK), Holds K W H st → Rep K W H x dx → Rep K W H y dy → Fin K W H E (f dx dy st) Q → r x y H Q
def RU (K : PySem.W.Frag) (r : V → Hp → VK → Prop) (f : D → M D) : Prop := ∀ (W : Wd) (H : Hp) (st : Store) (x : V) (dx : D) (Q : VK) (E : XK), Holds K W H st → Rep K W H x dx → Fin K W H E (f dx st) Q → r x H Q
theorem RD.or {K : PySem.W.Frag} {r r' : R2} {f : D → D → M D} (h : ∀ (W : Wd) (H : Hp) (st : Store) (x y : V) (dx dy : D) (Q : VK) (E : XK), Holds K W H st → Rep K W H x dx → Rep K W H y dy → Fin K W H E (f dx dy st) Q → r x y H Q ∨ r' x y H Q) :
    RD K (fun x y H Q => r x y H Q ∨ r' x y H Q) f := h
theorem de_op2 {op : Operator} {r : R2} {f : D → D → M D} (ho : OpR X (binaryOp op) r) (hf : RD X.K r f) (ha : DE X E σd a ma) (hb : DE X E σd b mb) : DE X E σd (.BinOp a op b pos) (ma >>= fun x => mb >>= fun y => f x y) :=
  ⟨pe_imp (pe_op ho ha.pe hb.pe) fun σ H Q ⟨W, st, hh, hs, h⟩ =>
    tD_run hh hs h fun d v W1 H1 st1 e1 hh1 hs1 r1 h1 => tD_run hh1 hs1 h1 fun d2 v2 W2 H2 st2 e2 hh2 hs2 r2 h2 => hf W2 H2 st2 v v2 d d2 Q (E σ) hh2 (r1.ext e2) r2 h2⟩
theorem de_un {op : UnaryOp} {r : V → Hp → VK → Prop} {f : D → M D} (ho : UnR X (unaryOp op) r) (hf : RU X.K r f) (ha : DE X E σd a ma) : DE X E σd (.UnaryOp op a pos) (ma >>= f) :=
  ⟨pe_imp (pe_un ho ha.pe) fun σ H Q ⟨W, st, hh, hs, h⟩ => tD_run hh hs h fun d v W1 H1 st1 e1 hh1 hs1 r1 h1 => hf W1 H1 st1 v d Q (E σ) hh1 r1 h1⟩
theorem de_cmp {op : CmpOp} {r : R2} {f : D → D → M D} (ho : OpR X (compareOp op) r) (hf : RD X.K r f) (ha : DE X E σd a ma) (hb : DE X E σd b mb) (hm : behindInMarks op b = false) : DE X E σd (.Compare a [op] [b] pos) (ma >>= fun x => mb >>= fun y => f x y) :=
  ⟨pe_imp (pe_cmpR ho ha.pe hb.pe hm) fun σ H Q ⟨W, st, hh, hs, h⟩ =>
    tD_run hh hs h fun d v W1 H1 st1 e1 hh1 hs1 r1 h1 => tD_run hh1 hs1 h1 fun d2 v2 W2 H2 st2 e2 hh2 hs2 r2 h2 => hf W2 H2 st2 v v2 d d2 Q (E σ) hh2 (r1.ext e2) r2 h2⟩
/-- a truth as a value, a value as a truth -/
def asB : D → M Bool
  | .bl b => pure b
  | _ => M.stuck
theorem asB_run {K : PySem.W.Frag} {W : Wd} {H : Hp} {st : Store} {d : D} {v : V} {β : Type} {f : Bool → M β} {k : β → Wd → Hp → Store → Prop} {E : XK} (r : Rep K W H v d) (h : After K W H E ((asB d >>= f) st) k) : ∃ b, v = .bl b ∧ After K W H E (f b st) k := by
  cases d with
  | bl b => exact ⟨b, r, h⟩
  | _ => exact h.elim
theorem asB_end {K : PySem.W.Frag} {W : Wd} {H : Hp} {st : Store} {d : D} {v : V} {Q : Bool → Hp → Prop} {E : XK} (hh : Holds K W H st) (r : Rep K W H v d) (h : After K W H E (asB d st) fun b W' H' _ => Q b H') : ∃ b, v = .bl b ∧ Q b H := by
  cases d with
  | bl b => exact ⟨b, r, h W H Ext.rfl' hh⟩
  | _ => exact h.elim
/-- a test whose value is a bool -/
theorem dt_val (ha : DE X E σd a ma) (he : ∀ whole, isTrue a X.env whole = (do let v ← whole; standAt a.pos; holding [v] (truthy v))) : DT X E σd a (ma >>= asB) :=
  ⟨pt_imp (pt_val ha.pe he) fun σ H Q ⟨W, st, hh, hs, h⟩ => tD_run hh hs h fun d v W1 H1 st1 e1 hh1 hs1 r1 h1 => asB_end hh1 r1 h1⟩
theorem dt_cmp {op : CmpOp} {r : R2} {f : D → D → M D} (ho : OpR X (compareOp op) r) (hf : RD X.K r f) (ha : DE X E σd a ma) (hb : DE X E σd b mb) (hm : behindInMarks op b = false) : DT X E σd (.Compare a [op] [b] pos) (ma >>= fun x => mb >>= fun y => f x y >>= asB) :=
  ⟨pt_imp (pt_cmpR ho ha.pe hb.pe hm) fun σ H Q ⟨W, st, hh, hs, h⟩ =>
    tD_run hh hs h fun d v W1 H1 st1 e1 hh1 hs1 r1 h1 => tD_run hh1 hs1 h1 fun d2 v2 W2 H2 st2 e2 hh2 hs2 r2 h2 => hf W2 H2 st2 v v2 d d2 _ (E σ) hh2 (r1.ext e2) r2
      ((After.next hs2 hh2 h2).mono fun d3 W3 H3 st3 _ _ _ ⟨e3, hh3, hs3, h3⟩ v3 r3 => asB_end hh3 r3 h3)⟩
/-- and, or, not as tests -/
theorem dt_not {ma : M Bool} (ha : DT X E σd a ma) : DT X E σd (.UnaryOp .Not a pos) (ma >>= fun b => pure (!b)) :=
  ⟨pt_imp (pt_not ha.pt) fun σ H Q ⟨W, st, hh, hs, h⟩ => tDT_run hh hs h fun d W1 H1 st1 e1 hh1 hs1 h1 => h1 W1 H1 Ext.rfl' hh1⟩
structure DW (X : Cx) (E : St → XK) (σd : List Sl) (e : Expr) (m : M Bool) : Prop where
  pw : PW X e (tDT X.K σd E m)
theorem DW.dt {e : Expr} {m : M Bool} (h : DW X E σd e m) : DT X E σd e m := ⟨h.pw.pt⟩
theorem pw_imp {e : Expr} {t t' : TT} (h : PW X e t) (f : ∀ σ H Q, t' σ H Q → t σ H Q) : PW X e t' := ⟨fun w pins s σ H Q I q => h.run w pins s σ H Q I (f σ H Q q)⟩
def bAnd (ma mb : M Bool) : M Bool := ma >>= fun b => if b = true then mb else pure false
def bOr (ma mb : M Bool) : M Bool := ma >>= fun b => if b = true then pure true else mb
theorem dw_and1 {ma : M Bool} (ha : DT X E σd a ma) : DW X E σd (.BoolOp .And [a] pos) ma := ⟨pw_and1 ha.pt⟩
theorem dw_or1 {ma : M Bool} (ha : DT X E σd a ma) : DW X E σd (.BoolOp .Or [a] pos) ma := ⟨pw_or1 ha.pt⟩
theorem dw_and {ma mb : M Bool} {rest : List Expr} (ha : DT X E σd a ma) (hb : DW X E σd (.BoolOp .And (b :: rest) pos) mb) : DW X E σd (.BoolOp .And (a :: b :: rest) pos) (bAnd ma mb) :=
  ⟨pw_imp (pw_and ha.pt hb.pw) fun σ H Q ⟨W, st, hh, hs, h⟩ => tDT_run hh hs h fun d W1 H1 st1 e1 hh1 hs1 h1 => by
    cases d with
    | true => exact ⟨W1, st1, hh1, hs1, h1⟩
    | false => exact h1 W1 H1 Ext.rfl' hh1⟩
theorem dw_or {ma mb : M Bool} {rest : List Expr} (ha : DT X E σd a ma) (hb : DW X E σd (.BoolOp .Or (b :: rest) pos) mb) : DW X E σd (.BoolOp .Or (a :: b :: rest) pos) (bOr ma mb) :=
  ⟨pw_imp (pw_or ha.pt hb.pw) fun σ H Q ⟨W, st, hh, hs, h⟩ => tDT_run hh hs h fun d W1 H1 st1 e1 hh1 hs1 h1 => by
    cases d with
    | true => exact h1 W1 H1 Ext.rfl' hh1
    | false => exact ⟨W1, st1, hh1, hs1, h1⟩⟩
/-- .. as values -/
def vAnd (ma mb : M D) : M D := ma >>= asB >>= fun b => if b = true then mb else pure (.bl false)
def vOr (ma mb : M D) : M D := ma >>= asB >>= fun b => if b = true then pure (.bl true) else mb
theorem de_one {op : BoolOp} (ha : DE X E σd a ma) : DE X E σd (.BoolOp op [a] pos) ma := ⟨pe_one ha.pe⟩
theorem de_and {rest : List Expr} (ha : DE X E σd a ma) (hb : DE X E σd (.BoolOp .And (b :: rest) pos) mb) : DE X E σd (.BoolOp .And (a :: b :: rest) pos) (vAnd ma mb) :=
  ⟨pe_imp (pe_and ha.pe hb.pe) fun σ H Q ⟨W, st, hh, hs, h⟩ => by
    have h' : Fin X.K W H (E σ) ((ma >>= fun x => asB x >>= fun b => if b = true then mb else pure (.bl false)) st) Q := by
      rw [← M.bind_assoc]; exact h
    refine tD_run hh hs h' fun d v W1 H1 st1 e1 hh1 hs1 r1 h1 => ?_
    obtain ⟨b, e, h2⟩ := asB_run r1 h1
    refine ⟨b, e, ?_⟩
    cases b with
    | true => exact ⟨W1, st1, hh1, hs1, h2⟩
    | false => exact Fin.ret h2 hh1 rfl⟩
theorem de_or {rest : List Expr} (ha : DE X E σd a ma) (hb : DE X E σd (.BoolOp .Or (b :: rest) pos) mb) : DE X E σd (.BoolOp .Or (a :: b :: rest) pos) (vOr ma mb) :=
  ⟨pe_imp (pe_or ha.pe hb.pe) fun σ H Q ⟨W, st, hh, hs, h⟩ => by
    have h' : Fin X.K W H (E σ) ((ma >>= fun x => asB x >>= fun b => if b = true then pure (.bl true) else mb) st) Q := by
      rw [← M.bind_assoc]; exact h
    refine tD_run hh hs h' fun d v W1 H1 st1 e1 hh1 hs1 r1 h1 => ?_
    obtain ⟨b, e, h2⟩ := asB_run r1 h1
    refine ⟨b, e, ?_⟩
    cases b with
    | true => exact Fin.ret h2 hh1 rfl
    | false => exact ⟨W1, st1, hh1, hs1, h2⟩⟩
theorem de_not (ha : DE X E σd a ma) : DE X E σd (.UnaryOp .Not a pos) (ma >>= asB >>= fun b => pure (.bl (!b))) :=
  ⟨pe_imp (pe_not ha.pe) fun σ H Q ⟨W, st, hh, hs, h⟩ => by
    have h' : Fin X.K W H (E σ) ((ma >>= fun x => asB x >>= fun b => pure (.bl (!b))) st) Q := by
      rw [← M.bind_assoc]; exact h
    refine tD_run hh hs h' fun d v W1 H1 st1 e1 hh1 hs1 r1 h1 => ?_
    obtain ⟨b, e, h2⟩ := asB_run r1 h1
    exact ⟨b, e, Fin.ret h2 hh1 rfl⟩⟩
theorem de_ifExp {mt : M Bool} (ht : DT X E σd c mt) (ha : DE X E σd a ma) (hb : DE X E σd b mb) : DE X E σd (.IfExp c a b pos) (mt >>= fun t => if t = true then ma else mb) :=
  ⟨pe_imp (pe_ifExp ht.pt ha.pe hb.pe) fun σ H Q ⟨W, st, hh, hs, h⟩ => tDT_run hh hs h fun d W1 H1 st1 e1 hh1 hs1 h1 => by
    cases d with
    | true => exact ⟨W1, st1, hh1, hs1, h1⟩
    | false => exact ⟨W1, st1, hh1, hs1, h1⟩⟩
/-! ### arguments, displays -/
theorem da_nil : DA X E σd [] (pure []) := ⟨pa_imp pa_nil fun σ H Q ⟨W, st, hh, hs, h⟩ => h W H Ext.rfl' hh [] rfl⟩
theorem da_cons {es : List Expr} {mr : M (List D)} (ha : DE X E σd a ma) (hr : DA X E σd es mr) (hs : starEach (a :: es) X.env = (false, eval a X.env) :: starEach es X.env) : DA X E σd (a :: es) (ma >>= fun x => mr >>= fun xs => pure (x :: xs)) :=
  ⟨pa_imp (pa_cons ha.pe hr.pa hs) fun σ H Q ⟨W, st, hh, hs, h⟩ => tD_run hh hs h fun d v W1 H1 st1 e1 hh1 hs1 r1 h1 =>
    ⟨W1, st1, hh1, hs1, (After.next hs1 hh1 h1).mono fun ds W2 H2 st2 _ _ _ ⟨e2, hh2, hs2, h2⟩ vs r2 => h2 W2 H2 Ext.rfl' hh2 _ (.cons (r1.ext e2) r2)⟩⟩
def mkTup (ds : List D) : M D := if ds.length ≤ 16777216 then pure (.tup ds) else M.stuck
def mkLst (ds : List D) : M D := if ds.length ≤ 16777216 then pure (.lst ds) else M.stuck
theorem de_tup {es : List Expr} {m : M (List D)} {k : Nat} (h : DA X E σd es m) : DE X E σd (.Tuple es k pos) (m >>= mkTup) :=
  ⟨pe_imp (pe_tup h.pa) fun σ H Q ⟨W, st, hh, hs, h⟩ => ⟨W, st, hh, hs, (After.next hs hh h).mono fun ds W1 H1 st1 _ _ _ ⟨e1, hh1, hs1, h1⟩ vs r1 => by
    by_cases hz : ds.length ≤ 16777216
    · have h1' : Fin X.K W1 H1 (E σ) (mkTup ds st1) Q := h1
      unfold mkTup at h1'
      rw [if_pos hz] at h1'
      exact ⟨by rw [r1.length, sizeLine_eq]; exact hz, fun p hp => Fin.newT h1' hh1 hp r1 hz⟩
    · have h1' : Fin X.K W1 H1 (E σ) (mkTup ds st1) Q := h1
      unfold mkTup at h1'
      rw [if_neg hz] at h1'
      exact h1'.elim⟩⟩
theorem de_lst {es : List Expr} {m : M (List D)} (h : DA X E σd es m) : DE X E σd (.List es pos) (m >>= mkLst) :=
  ⟨pe_imp (pe_lst h.pa) fun σ H Q ⟨W, st, hh, hs, h⟩ => ⟨W, st, hh, hs, (After.next hs hh h).mono fun ds W1 H1 st1 _ _ _ ⟨e1, hh1, hs1, h1⟩ vs r1 => by
    have h1' : Fin X.K W1 H1 (E σ) (mkLst ds st1) Q := h1
    unfold mkLst at h1'
    by_cases hz : ds.length ≤ 16777216
    · rw [if_pos hz] at h1'
      exact ⟨by rw [r1.length, sizeLine_eq]; exact hz, fun p hp => Fin.newL h1' hh1 hp r1 hz⟩
    · rw [if_neg hz] at h1'
      exact h1'.elim⟩⟩
end
end DL
/-! DL4: operations on data. -/
namespace DL
open PySem PySem.Spec L2

theorem szLine {n : Nat} (h : n ≤ 16777216) : n ≤ sizeLine := by rw [sizeLine_eq]; exact h
theorem mkS_app (a b : List Nat) : mkS a ++ mkS b = mkS (a ++ b) := by
  show (⟨a.toArray ++ b.toArray⟩ : Str) = ⟨(a ++ b).toArray⟩
  simp
theorem sOk_app {a b : List Nat} (ha : sOk a = true) (hb : sOk b = true) (h : a.length + b.length ≤ 16777216) : sOk (a ++ b) = true := by
  rw [sOk_iff] at ha hb ⊢
  refine ⟨by rw [List.length_append]; exact h, fun c hc => ?_⟩
  rcases List.mem_append.mp hc with q | q
  · exact ha.2 c q
  · exact hb.2 c q
theorem sOk_sub {a b : List Nat} (hb : sOk b = true) (hl : a.length ≤ b.length) (h : ∀ c ∈ a, c ∈ b) : sOk a = true := by
  rw [sOk_iff] at hb ⊢
  exact ⟨Nat.le_trans hl hb.1, fun c hc => hb.2 c (h c hc)⟩

/-! ### sums, products -/
def dAdd : D → D → M D
  | .int i, .int j => pure (.int (i + j))
  | .str a, .str b => if a.length + b.length ≤ 16777216 then pure (.str (a ++ b)) else M.stuck
  | .lst a, .lst b => if a.length + b.length ≤ 16777216 then pure (.lst (a ++ b)) else M.stuck
  | .tup a, .tup b => if a.length + b.length ≤ 16777216 then pure (.tup (a ++ b)) else M.stuck
  | _, _ => M.stuck
def dSub : D → D → M D
  | .int i, .int j => pure (.int (i - j))
  | _, _ => M.stuck
/-- a product that the model takes -/
def mulOk (i j : Int) : Prop := ((-(2 ^ 64) < i ∧ i < 2 ^ 64) ∨ (-(2 ^ 64) < j ∧ j < 2 ^ 64)) ∨ i.natAbs.log2 + j.natAbs.log2 < 1000000
instance (i j : Int) : Decidable (mulOk i j) := by unfold mulOk; infer_instance
def repL {α : Type} (xs : List α) (k : Int) : List α := (List.replicate k.toNat xs).flatten
def dMul : D → D → M D
  | .int i, .int j => if mulOk i j then pure (.int (i * j)) else M.stuck
  | .lst a, .int k => if a.length * k.toNat ≤ 16777216 ∧ -(2 ^ 63) ≤ k ∧ k < 2 ^ 63 then pure (.lst (repL a k)) else M.stuck
  | .tup a, .int k => if a ≠ [] ∧ 2 ≤ k ∧ k ≤ 1000 ∧ a.length ≤ 1000 then pure (.tup (repL a k)) else if k = 1 ∨ a = [] then M.stuck else M.stuck
  | .str a, .int k => if 2 ≤ k ∧ k ≤ 1000 ∧ 1 ≤ a.length ∧ a.length ≤ 1000 then pure (.str (repL a k)) else if k = 1 ∧ a.length ≤ 1000 then pure (.str a) else M.stuck
  | _, _ => M.stuck
def divOk (j : Int) : Prop := (j ≠ 0 ∧ j.natAbs < 1073741824) ∨ (0 < j ∧ j.natAbs.log2 < 9000)
instance (j : Int) : Decidable (divOk j) := by unfold divOk; infer_instance
def dFdiv : D → D → M D
  | .int i, .int j => if divOk j then pure (.int (i.fdiv j)) else M.stuck
  | _, _ => M.stuck
def dMod : D → D → M D
  | .int i, .int j => if j ≠ 0 then pure (.int (i.fmod j)) else M.stuck
  | _, _ => M.stuck
def dPow : D → D → M D
  | .int i, .int j => if 0 ≤ j ∧ j ≤ 1000000 ∧ i.natAbs < 2 ^ 64 then pure (.int (i ^ j.toNat)) else M.stuck
  | _, _ => M.stuck
def dNeg : D → M D
  | .int i => pure (.int (-i))
  | _ => M.stuck
section
variable {K : PySem.W.Frag} {X : Cx}
def rAddA (K : PySem.W.Frag) : R2 := fun x y H Q => rI0 (fun i j => .int (i + j)) x y H Q ∨ (∃ i j, x = .str i ∧ y = .str j ∧ i.length + j.length ≤ sizeLine ∧ Q (.str (i ++ j)) H) ∨ rCat x y H Q ∨ rCatA K x y H Q
theorem op_addA : OpR X (binaryOp .Add) (rAddA X.K) := op_add.or (op_add_str.or (op_cat.or op_catA))
theorem rd_add : RD K (rAddA K) dAdd := by
  intro W H st x y dx dy Q E hh rx ry hq
  cases dx with
  | int i =>
    cases dy with
    | int j => exact .inl ⟨i, j, rx, ry, Fin.ret hq hh rfl⟩
    | _ => exact hq.elim
  | str a =>
    cases dy with
    | str b =>
      have hq' : Fin K W H E ((if a.length + b.length ≤ 16777216 then pure (.str (a ++ b)) else M.stuck : M D) st) Q := hq
      by_cases hz : a.length + b.length ≤ 16777216
      · rw [if_pos hz] at hq'
        exact .inr (.inl ⟨mkS a, mkS b, rx.1, ry.1, by rw [mkS_len, mkS_len]; exact szLine hz, by rw [mkS_app]; exact Fin.ret hq' hh ⟨rfl, sOk_app rx.2 ry.2 hz⟩⟩)
      · rw [if_neg hz] at hq'
        exact hq'.elim
    | _ => exact hq.elim
  | lst a =>
    cases dy with
    | lst b =>
      have hq' : Fin K W H E ((if a.length + b.length ≤ 16777216 then pure (.lst (a ++ b)) else M.stuck : M D) st) Q := hq
      by_cases hz : a.length + b.length ≤ 16777216
      · rw [if_pos hz] at hq'
        obtain ⟨p, vs, rfl, _, hp, _, r1⟩ := rx
        obtain ⟨q, ws, rfl, _, hw, _, r2⟩ := ry
        exact .inr (.inr (.inl ⟨p, q, vs, ws, rfl, rfl, hp, hw, by rw [r1.length, r2.length]; exact szLine hz, fun o ho => Fin.newL hq' hh ho (r1.append r2) (by rw [List.length_append]; exact hz)⟩))
      · rw [if_neg hz] at hq'
        exact hq'.elim
    | _ => exact hq.elim
  | tup a =>
    cases dy with
    | tup b =>
      have hq' : Fin K W H E ((if a.length + b.length ≤ 16777216 then pure (.tup (a ++ b)) else M.stuck : M D) st) Q := hq
      by_cases hz : a.length + b.length ≤ 16777216
      · rw [if_pos hz] at hq'
        have rx0 := rx
        have ry0 := ry
        obtain ⟨p, vs, rfl, hp, r1⟩ := Rep.tupSq rx
        obtain ⟨q, ws, rfl, hw, r2⟩ := Rep.tupSq ry
        refine .inr (.inr (.inr ⟨p, q, vs, ws, rfl, rfl, hp, hw, by rw [r1.length, r2.length]; exact szLine hz, fun e => ?_, fun _ e => ?_, fun _ _ o ho => Fin.newT hq' hh ho (r1.append r2) (by rw [List.length_append]; exact hz)⟩))
        · have ea : a = [] := List.eq_nil_of_length_eq_zero (by rw [← r1.length, e]; rfl)
          subst ea
          exact Fin.ret hq' hh ry0
        · have eb : b = [] := List.eq_nil_of_length_eq_zero (by rw [← r2.length, e]; rfl)
          subst eb
          rw [List.append_nil] at hq'
          exact Fin.ret hq' hh rx0
      · rw [if_neg hz] at hq'
        exact hq'.elim
    | _ => exact hq.elim
  | _ => exact hq.elim
theorem rd_sub : RD K (rI0 fun i j => .int (i - j)) dSub := by
  intro W H st x y dx dy Q E hh rx ry hq
  cases dx with
  | int i =>
    cases dy with
    | int j => exact ⟨i, j, rx, ry, Fin.ret hq hh rfl⟩
    | _ => exact hq.elim
  | _ => exact hq.elim
theorem rd_mod : RD K (rI (fun _ j => j ≠ 0) fun i j => .int (i.fmod j)) dMod := by
  intro W H st x y dx dy Q E hh rx ry hq
  cases dx with
  | int i =>
    cases dy with
    | int j =>
      have hq' : Fin K W H E ((if j ≠ 0 then pure (.int (i.fmod j)) else M.stuck : M D) st) Q := hq
      by_cases hz : j ≠ 0
      · rw [if_pos hz] at hq'
        exact ⟨i, j, rx, ry, hz, Fin.ret hq' hh rfl⟩
      · rw [if_neg hz] at hq'
        exact hq'.elim
    | _ => exact hq.elim
  | _ => exact hq.elim
theorem rd_pow : RD K (rI CPow fun i j => .int (i ^ j.toNat)) dPow := by
  intro W H st x y dx dy Q E hh rx ry hq
  cases dx with
  | int i =>
    cases dy with
    | int j =>
      have hq' : Fin K W H E ((if 0 ≤ j ∧ j ≤ 1000000 ∧ i.natAbs < 2 ^ 64 then pure (.int (i ^ j.toNat)) else M.stuck : M D) st) Q := hq
      by_cases hz : 0 ≤ j ∧ j ≤ 1000000 ∧ i.natAbs < 2 ^ 64
      · rw [if_pos hz] at hq'
        exact ⟨i, j, rx, ry, hz, Fin.ret hq' hh rfl⟩
      · rw [if_neg hz] at hq'
        exact hq'.elim
    | _ => exact hq.elim
  | _ => exact hq.elim
def rFdivA : R2 := fun x y H Q => rI CDivN (fun i j => .int (i.fdiv j)) x y H Q ∨ rI CDivW (fun i j => .int (i / j)) x y H Q
theorem op_fdivA : OpR X (binaryOp .FloorDiv) rFdivA := op_fdivN.or op_fdivW
theorem rd_fdiv : RD K rFdivA dFdiv := by
  intro W H st x y dx dy Q E hh rx ry hq
  cases dx with
  | int i =>
    cases dy with
    | int j =>
      have hq' : Fin K W H E ((if divOk j then pure (.int (i.fdiv j)) else M.stuck : M D) st) Q := hq
      by_cases hz : divOk j
      · rw [if_pos hz] at hq'
        rcases hz with hz | hz
        · exact .inl ⟨i, j, rx, ry, hz, Fin.ret hq' hh rfl⟩
        · refine .inr ⟨i, j, rx, ry, hz, ?_⟩
          show Q (.int (i / j)) H
          rw [← Int.fdiv_eq_ediv_of_nonneg i (Int.le_of_lt hz.1)]
          exact Fin.ret hq' hh rfl
      · rw [if_neg hz] at hq'
        exact hq'.elim
    | _ => exact hq.elim
  | _ => exact hq.elim
theorem ru_neg : RU K (rU fun i => .int (-i)) dNeg := by
  intro W H st x dx Q E hh rx hq
  cases dx with
  | int i => exact ⟨i, rx, Fin.ret hq hh rfl⟩
  | _ => exact hq.elim
/-- text times a number -/
theorem rep_str (a : List Nat) (k : Nat) : (List.replicate k a.toArray).foldl (· ++ ·) #[] = (List.replicate k a).flatten.toArray := by
  have h : ∀ (k : Nat) (b : List Nat), (List.replicate k a.toArray).foldl (· ++ ·) b.toArray = (b ++ (List.replicate k a).flatten).toArray := by
    intro k
    induction k with
    | zero => intro b; simp
    | succ k ih =>
      intro b
      rw [List.replicate_succ, List.foldl_cons, List.replicate_succ, List.flatten_cons]
      have e : b.toArray ++ a.toArray = (b ++ a).toArray := by simp
      rw [e, ih, List.append_assoc]
  have := h k []
  simpa using this
def rRepS : R2 := fun x y H Q => ∃ (a : List Nat) (k : Int), x = .str (mkS a) ∧ y = .int k ∧ ((2 ≤ k ∧ k ≤ 1000 ∧ 1 ≤ a.length ∧ a.length ≤ 1000 ∧ Q (.str (mkS (repL a k))) H) ∨ (k = 1 ∧ a.length ≤ 1000 ∧ Q (.str (mkS a)) H))
theorem op_repS : OpR X (binaryOp .Mult) rRepS := by
  intro pins s σ H x y v u Q I rx ry h
  obtain ⟨a, k, rfl, rfl, h⟩ := h
  obtain ⟨t, rfl⟩ := rx
  obtain ⟨t', rfl⟩ := ry
  have hlen : (mkS a).length = a.length := mkS_len a
  rcases h with ⟨h1, h2, h3, h4, q⟩ | ⟨h1, h2, q⟩
  · have c1 : ¬ k < 1 := by omega
    have c2 : (k == 1 || (mkS a).length == 0) = false := by
      rw [hlen, Bool.or_eq_false_iff]
      exact ⟨beq_eq_false_iff_ne.mpr (by omega), beq_eq_false_iff_ne.mpr (by omega)⟩
    refine PySem.P.mul_str (by rw [decide_eq_false (by omega), decide_eq_false (by omega)]; rfl) (fun _ _ => ?_) (fun _ _ => ?_) ?_
    · rw [hlen]
      have : (1000 : Int) ≤ (2 ^ 63 - 1) / k := by
        rw [Int.le_ediv_iff_mul_le (by omega)]
        omega
      omega
    · rw [hlen]
      unfold Builtin.Str.tooLong
      have : a.length * k.toNat ≤ 1000 * 1000 := Nat.mul_le_mul h4 (by omega)
      rw [sizeLine_eq]
      exact decide_eq_false (by omega)
    · rw [if_neg c1, if_neg (by rw [c2]; decide)]
      have e : (⟨List.foldl (fun x1 x2 => x1 ++ x2) #[] (List.replicate k.toNat (mkS a).cps)⟩ : Str) = mkS (repL a k) := by
        show (⟨List.foldl (fun x1 x2 => x1 ++ x2) #[] (List.replicate k.toNat a.toArray)⟩ : Str) = _
        rw [rep_str]
        rfl
      show (⟨List.foldl (fun x1 x2 => x1 ++ x2) #[] (List.replicate k.toNat (mkS a).cps)⟩ : Str).length ≤ sizeLine ∧ EP X pins σ Q (.str ⟨List.foldl (fun x1 x2 => x1 ++ x2) #[] (List.replicate k.toNat (mkS a).cps)⟩ s.toks) _
      rw [e, mkS_len]
      refine ⟨?_, .str (mkS (repL a k)), H, I.tok _, ⟨_, rfl⟩, q⟩
      unfold repL
      rw [PyProof.Rows.lm_len_rep_flat, sizeLine_eq]
      have : k.toNat * a.length ≤ 1000 * 1000 := Nat.mul_le_mul (by omega) h4
      omega
  · subst h1
    refine PySem.P.mul_str (by decide) (fun _ z => ?_) (fun _ z => ?_) ?_
    · simp at z
    · simp at z
    · rw [if_neg (by decide), if_pos (by simp)]
      exact ⟨.str (mkS a), H, I, ⟨_, rfl⟩, q⟩
theorem repL_len {α : Type} (a : List α) (k : Int) : (repL a k).length = k.toNat * a.length := by
  unfold repL
  rw [PyProof.Rows.lm_len_rep_flat]
theorem repL_mem {α : Type} {a : List α} {k : Int} {c : α} (h : c ∈ repL a k) : c ∈ a := by
  unfold repL at h
  obtain ⟨l, hl, hc⟩ := List.mem_flatten.mp h
  rw [(List.mem_replicate.mp hl).2] at hc
  exact hc
theorem Reps.rep {W : Wd} {H : Hp} {vs : List V} {ds : List D} (r : Reps K W H vs ds) (k : Nat) : Reps K W H (List.replicate k vs).flatten (List.replicate k ds).flatten := by
  induction k with
  | zero => exact Reps.nil
  | succ k ih =>
    rw [List.replicate_succ, List.flatten_cons, List.replicate_succ, List.flatten_cons]
    exact r.append ih
def rMulA (K : PySem.W.Frag) : R2 := fun x y H Q => rI CMul (fun i j => .int (i * j)) x y H Q ∨ rI CMulW (fun i j => .int (i * j)) x y H Q ∨ rRep x y H Q ∨ rRepT K x y H Q ∨ rRepS x y H Q
theorem op_mulA : OpR X (binaryOp .Mult) (rMulA X.K) := op_mul.or (op_mulW.or (op_rep.or (op_repT.or op_repS)))
theorem rd_mul : RD K (rMulA K) dMul := by
  intro W H st x y dx dy Q E hh rx ry hq
  cases dx with
  | int i =>
    cases dy with
    | int j =>
      have hq' : Fin K W H E ((if mulOk i j then pure (.int (i * j)) else M.stuck : M D) st) Q := hq
      by_cases hz : mulOk i j
      · rw [if_pos hz] at hq'
        rcases hz with hz | hz
        · exact .inl ⟨i, j, rx, ry, hz, Fin.ret hq' hh rfl⟩
        · exact .inr (.inl ⟨i, j, rx, ry, hz, Fin.ret hq' hh rfl⟩)
      · rw [if_neg hz] at hq'
        exact hq'.elim
    | _ => exact hq.elim
  | lst a =>
    cases dy with
    | int k =>
      have hq' : Fin K W H E ((if a.length * k.toNat ≤ 16777216 ∧ -(2 ^ 63) ≤ k ∧ k < 2 ^ 63 then pure (.lst (repL a k)) else M.stuck : M D) st) Q := hq
      by_cases hz : a.length * k.toNat ≤ 16777216 ∧ -(2 ^ 63) ≤ k ∧ k < 2 ^ 63
      · rw [if_pos hz] at hq'
        obtain ⟨p, vs, rfl, _, hp, _, r1⟩ := rx
        exact .inr (.inr (.inl ⟨p, k, vs, rfl, ry, hp, hz.2.1, hz.2.2, by rw [r1.length]; exact szLine hz.1, fun o ho => Fin.newL hq' hh ho (r1.rep _) (by rw [repL_len, Nat.mul_comm]; exact hz.1)⟩))
      · rw [if_neg hz] at hq'
        exact hq'.elim
    | _ => exact hq.elim
  | tup a =>
    cases dy with
    | int k =>
      have hq' : Fin K W H E ((if a ≠ [] ∧ 2 ≤ k ∧ k ≤ 1000 ∧ a.length ≤ 1000 then pure (.tup (repL a k)) else if k = 1 ∨ a = [] then M.stuck else M.stuck : M D) st) Q := hq
      by_cases hz : a ≠ [] ∧ 2 ≤ k ∧ k ≤ 1000 ∧ a.length ≤ 1000
      · rw [if_pos hz] at hq'
        obtain ⟨p, vs, rfl, hp, r1⟩ := Rep.tupSq rx
        refine .inr (.inr (.inr (.inl ⟨p, k, vs, rfl, ry, hp, fun e => hz.1 ?_, hz.2.1, hz.2.2.1, by rw [r1.length]; exact hz.2.2.2, fun o ho => Fin.newT hq' hh ho (r1.rep _) (by rw [repL_len]; have : k.toNat * a.length ≤ 1000 * 1000 := Nat.mul_le_mul (by omega) hz.2.2.2; omega)⟩)))
        exact List.eq_nil_of_length_eq_zero (by rw [← r1.length, e]; rfl)
      · rw [if_neg hz] at hq'
        have hq2 : Fin K W H E ((if k = 1 ∨ a = [] then M.stuck else M.stuck : M D) st) Q := hq'
        split at hq2 <;> exact hq2.elim
    | _ => exact hq.elim
  | str a =>
    cases dy with
    | int k =>
      have hq' : Fin K W H E ((if 2 ≤ k ∧ k ≤ 1000 ∧ 1 ≤ a.length ∧ a.length ≤ 1000 then pure (.str (repL a k)) else if k = 1 ∧ a.length ≤ 1000 then pure (.str a) else M.stuck : M D) st) Q := hq
      by_cases hz : 2 ≤ k ∧ k ≤ 1000 ∧ 1 ≤ a.length ∧ a.length ≤ 1000
      · rw [if_pos hz] at hq'
        refine .inr (.inr (.inr (.inr ⟨a, k, rx.1, ry, .inl ⟨hz.1, hz.2.1, hz.2.2.1, hz.2.2.2, Fin.ret hq' hh ⟨rfl, ?_⟩⟩⟩)))
        have h1 := sOk_iff.mp rx.2
        rw [sOk_iff]
        refine ⟨?_, fun c hc => h1.2 c (repL_mem hc)⟩
        rw [repL_len]
        have : k.toNat * a.length ≤ 1000 * 1000 := Nat.mul_le_mul (by omega) hz.2.2.2
        omega
      · rw [if_neg hz] at hq'
        have hq2 : Fin K W H E ((if k = 1 ∧ a.length ≤ 1000 then pure (.str a) else M.stuck : M D) st) Q := hq'
        by_cases h1 : k = 1 ∧ a.length ≤ 1000
        · rw [if_pos h1] at hq2
          exact .inr (.inr (.inr (.inr ⟨a, k, rx.1, ry, .inr ⟨h1.1, h1.2, Fin.ret hq2 hh ⟨rfl, rx.2⟩⟩⟩)))
        · rw [if_neg h1] at hq2
          exact hq2.elim
    | _ => exact hq.elim
  | _ => exact hq.elim
end

/-! ### data as the library has it -/
mutual
def toPy : D → PyData
  | .non => .none
  | .bl b => .bool b
  | .int i => .int i
  | .str cs => .str (mkS cs)
  | .lst xs => .list (toPys xs)
  | .tup xs => .tuple (toPys xs)
  | .scr _ => .none
  | .fn _ => .none
  | .adr _ => .none
  | .ref _ => .none
def toPys : List D → List PyData
  | [] => []
  | d :: ds => toPy d :: toPys ds
end
mutual
/-- no object, no def within; not nested too deep -/
def okD : Nat → D → Bool
  | _, .non => true
  | _, .bl _ => true
  | _, .int _ => true
  | _, .str _ => true
  | _, .scr _ => false
  | _, .fn _ => false
  | _, .adr _ => false
  | _, .ref _ => false
  | 0, .lst _ => false
  | n + 1, .lst xs => okDs n xs
  | 0, .tup _ => false
  | n + 1, .tup xs => okDs n xs
def okDs : Nat → List D → Bool
  | _, [] => true
  | n, d :: ds => okD n d && okDs n ds
end
section
variable {K : PySem.W.Frag} {W : Wd} {H : Hp}
mutual
theorem okD_dp : ∀ (n : Nat) (d : D) (v : V), okD n d = true → Rep K W H v d → Dp K H v (toPy d) ∧ (toPy d).canLay0 = true ∧ (toPy d).depth ≤ n
  | _, .non, _, _, r => by
    have e : _ = V.non := r
    subst e
    exact ⟨by rw [toPy]; exact .non, by rw [toPy, PyData.canLay0], by rw [toPy, PyData.depth]; exact Nat.zero_le _⟩
  | _, .bl b, _, _, r => by
    have e : _ = V.bl b := r
    subst e
    exact ⟨by rw [toPy]; exact .bl b, by rw [toPy, PyData.canLay0], by rw [toPy, PyData.depth]; exact Nat.zero_le _⟩
  | _, .int i, _, _, r => by
    have e : _ = V.int i := r
    subst e
    exact ⟨by rw [toPy]; exact .int i, by rw [toPy, PyData.canLay0], by rw [toPy, PyData.depth]; exact Nat.zero_le _⟩
  | _, .str cs, _, _, r => by
    obtain ⟨e, ho⟩ : _ = V.str (mkS cs) ∧ sOk cs = true := r
    subst e
    refine ⟨by rw [toPy]; exact .str _, ?_, by rw [toPy, PyData.depth]; exact Nat.zero_le _⟩
    rw [toPy, PyData.canLay0]
    unfold PySem.PyData.strOk
    rw [sOk_iff] at ho
    rw [Array.all_eq_true_iff_forall_mem]
    intro c hc
    exact decide_eq_true (ho.2 c (by simpa using hc))
  | 0, .lst xs, _, h, _ => by rw [okD] at h; cases h
  | n + 1, .lst xs, _, h, r => by
    have h' : okDs n xs = true := by rw [okD] at h; exact h
    obtain ⟨a, vs, rfl, _, ha, _, r1⟩ := r
    obtain ⟨q1, q2, q3⟩ := okDs_dp n xs vs h' r1
    exact ⟨by rw [toPy]; exact .lst (SqL.of ha) q1, by rw [toPy, PyData.canLay0]; exact q2, by rw [toPy, PyData.depth]; omega⟩
  | 0, .tup xs, _, h, _ => by rw [okD] at h; cases h
  | n + 1, .tup xs, _, h, r => by
    have h' : okDs n xs = true := by rw [okD] at h; exact h
    obtain ⟨a, vs, rfl, ha, r1⟩ := Rep.tupSq r
    obtain ⟨q1, q2, q3⟩ := okDs_dp n xs vs h' r1
    exact ⟨by rw [toPy]; exact .tup ha q1, by rw [toPy, PyData.canLay0]; exact q2, by rw [toPy, PyData.depth]; omega⟩
  | _, .scr _, _, h, _ => by rw [okD] at h; cases h
  | _, .fn _, _, h, _ => by rw [okD] at h; cases h
  | _, .adr _, _, h, _ => by rw [okD] at h; cases h
  | _, .ref _, _, h, _ => by rw [okD] at h; cases h
theorem okDs_dp : ∀ (n : Nat) (ds : List D) (vs : List V), okDs n ds = true → Reps K W H vs ds → DpAll K H vs (toPys ds) ∧ PyData.canLayAll0 (toPys ds) = true ∧ PyData.depthAll (toPys ds) ≤ n
  | n, [], vs, _, r => by
    have e : vs = [] := r
    subst e
    exact ⟨by rw [toPys]; exact .nil, by rw [toPys, PyData.canLayAll0], by rw [toPys, PyData.depthAll]; exact Nat.zero_le _⟩
  | n, d :: ds, _, h, r => by
    obtain ⟨v, rr, rfl, r1, r2⟩ := r
    rw [okDs, Bool.and_eq_true] at h
    obtain ⟨a1, a2, a3⟩ := okD_dp n d v h.1 r1
    obtain ⟨b1, b2, b3⟩ := okDs_dp n ds rr h.2 r2
    exact ⟨by rw [toPys]; exact .cons a1 b1, by rw [toPys, PyData.canLayAll0, a2, b2]; rfl, by rw [toPys, PyData.depthAll]; omega⟩
end
theorem okD_shaped {d : D} {v : V} (h : okD 60 d = true) (r : Rep K W H v d) : SeqAt.shaped (toPy d) = true := by
  obtain ⟨_, h2, h3⟩ := okD_dp 60 d v h r
  unfold SeqAt.shaped
  rw [h2, decide_eq_true (by omega)]
  rfl
end
/-! ### == -/
mutual
def eqd : D → D → Bool
  | .non, .non => true
  | .bl a, .bl b => a == b
  | .bl a, .int j => (if a then 1 else 0) == j
  | .int i, .bl b => i == (if b then 1 else 0)
  | .int i, .int j => i == j
  | .str x, .str y => x == y
  | .lst xs, .lst ys => eqds xs ys
  | .tup xs, .tup ys => eqds xs ys
  | _, _ => false
def eqds : List D → List D → Bool
  | [], [] => true
  | d :: ds, e :: es => eqd d e && eqds ds es
  | _, _ => false
end
theorem mkS_beq (a b : List Nat) : (mkS a == mkS b) = (a == b) := by
  rw [Bool.eq_iff_iff, beq_iff_eq, beq_iff_eq]
  constructor
  · intro h
    have := congrArg (fun z : Str => z.cps.toList) h
    simpa using this
  · intro h; rw [h]
mutual
theorem eqd_py : ∀ (n : Nat) (x y : D), okD n x = true → okD n y = true → PyData.eqv (toPy x) (toPy y) = eqd x y
  | n, .non, y, _, hy => by cases y <;> first | rfl | (simp [toPy, PyData.eqv, eqd]; done) | (rw [okD] at hy; cases hy)
  | n, .bl a, y, _, hy => by cases y <;> first | rfl | (simp [toPy, PyData.eqv, eqd]; done) | (rw [okD] at hy; cases hy)
  | n, .int a, y, _, hy => by cases y <;> first | rfl | (simp [toPy, PyData.eqv, eqd]; done) | (rw [okD] at hy; cases hy)
  | n, .str a, y, _, hy => by
    cases y with
    | str b => simp only [toPy, PyData.eqv, eqd]; exact mkS_beq a b
    | _ => first | rfl | (simp [toPy, PyData.eqv, eqd]; done) | (rw [okD] at hy; cases hy)
  | 0, .lst xs, y, h, _ => by rw [okD] at h; cases h
  | n + 1, .lst xs, y, h, hy => by
    cases y with
    | lst ys =>
      simp only [toPy, PyData.eqv, eqd]
      exact eqds_py n xs ys (by rw [okD] at h; exact h) (by rw [okD] at hy; exact hy)
    | _ => first | rfl | (simp [toPy, PyData.eqv, eqd]; done) | (rw [okD] at hy; cases hy)
  | 0, .tup xs, y, h, _ => by rw [okD] at h; cases h
  | n + 1, .tup xs, y, h, hy => by
    cases y with
    | tup ys =>
      simp only [toPy, PyData.eqv, eqd]
      exact eqds_py n xs ys (by rw [okD] at h; exact h) (by rw [okD] at hy; exact hy)
    | _ => first | rfl | (simp [toPy, PyData.eqv, eqd]; done) | (rw [okD] at hy; cases hy)
  | _, .scr _, _, h, _ => by rw [okD] at h; cases h
  | _, .fn _, _, h, _ => by rw [okD] at h; cases h
  | _, .adr _, _, h, _ => by rw [okD] at h; cases h
  | _, .ref _, _, h, _ => by rw [okD] at h; cases h
theorem eqds_py : ∀ (n : Nat) (x y : List D), okDs n x = true → okDs n y = true → PyData.eqvAll (toPys x) (toPys y) = eqds x y
  | n, [], [], _, _ => by simp [toPys, PyData.eqvAll, eqds]
  | n, [], _ :: _, _, _ => by simp [toPys, PyData.eqvAll, eqds]
  | n, _ :: _, [], _, _ => by simp [toPys, PyData.eqvAll, eqds]
  | n, d :: ds, e :: es, h1, h2 => by
    rw [okDs, Bool.and_eq_true] at h1 h2
    rw [toPys, toPys, PyData.eqvAll, eqds, eqd_py n d e h1.1 h2.1, eqds_py n ds es h1.2 h2.2]
end
def dEq (x y : D) : M D := if okD 60 x = true ∧ okD 60 y = true then pure (.bl (eqd x y)) else M.stuck
def dNe (x y : D) : M D := if okD 60 x = true ∧ okD 60 y = true then pure (.bl (!eqd x y)) else M.stuck
def dLt : D → D → M D
  | .int i, .int j => pure (.bl (decide (i < j)))
  | _, _ => M.stuck
def dLe : D → D → M D
  | .int i, .int j => pure (.bl (decide (i ≤ j)))
  | _, _ => M.stuck
def dGt : D → D → M D
  | .int i, .int j => pure (.bl (decide (j < i)))
  | _, _ => M.stuck
def dGe : D → D → M D
  | .int i, .int j => pure (.bl (decide (j ≤ i)))
  | _, _ => M.stuck
def isN : D → Bool
  | .non => true
  | _ => false
def dIs : D → D → M D
  | x, .non => pure (.bl (isN x))
  | .bl a, .bl b => pure (.bl (decide (a = b)))
  | _, _ => M.stuck
def dIsNot : D → D → M D
  | x, .non => pure (.bl (!isN x))
  | .bl a, .bl b => pure (.bl (!decide (a = b)))
  | _, _ => M.stuck
def subL (a : List Nat) (z : List Nat) : Bool := match a with
  | [c] => decide (c ∈ z)
  | _ => false
def dIn : D → D → M D
  | x, .lst ys => if okD 60 x = true ∧ okD 60 (.lst ys) = true then pure (.bl (ys.any fun y => eqd y x)) else M.stuck
  | x, .tup ys => if okD 60 x = true ∧ okD 60 (.tup ys) = true then pure (.bl (ys.any fun y => eqd y x)) else M.stuck
  | .str [c], .str z => pure (.bl (decide (c ∈ z)))
  | _, _ => M.stuck
def dNotIn : D → D → M D
  | x, .lst ys => if okD 60 x = true ∧ okD 60 (.lst ys) = true then pure (.bl (!ys.any fun y => eqd y x)) else M.stuck
  | x, .tup ys => if okD 60 x = true ∧ okD 60 (.tup ys) = true then pure (.bl (!ys.any fun y => eqd y x)) else M.stuck
  | .str [c], .str z => pure (.bl (!decide (c ∈ z)))
  | _, _ => M.stuck
section
variable {K : PySem.W.Frag} {X : Cx}
theorem rd_eq : RD K (rEqD K) dEq := by
  intro W H st x y dx dy Q E hh rx ry hq
  unfold dEq at hq
  by_cases hz : okD 60 dx = true ∧ okD 60 dy = true
  · rw [if_pos hz] at hq
    refine ⟨toPy dx, toPy dy, (okD_dp 60 dx x hz.1 rx).1, (okD_dp 60 dy y hz.2 ry).1, okD_shaped hz.1 rx, okD_shaped hz.2 ry, ?_⟩
    rw [eqd_py 60 dx dy hz.1 hz.2]
    exact Fin.ret hq hh rfl
  · rw [if_neg hz] at hq
    exact hq.elim
theorem rd_ne : RD K (rNeD K) dNe := by
  intro W H st x y dx dy Q E hh rx ry hq
  unfold dNe at hq
  by_cases hz : okD 60 dx = true ∧ okD 60 dy = true
  · rw [if_pos hz] at hq
    refine ⟨toPy dx, toPy dy, (okD_dp 60 dx x hz.1 rx).1, (okD_dp 60 dy y hz.2 ry).1, okD_shaped hz.1 rx, okD_shaped hz.2 ry, ?_⟩
    rw [eqd_py 60 dx dy hz.1 hz.2]
    exact Fin.ret hq hh rfl
  · rw [if_neg hz] at hq
    exact hq.elim
theorem rd_II {g : Int → Int → Bool} {f : D → D → M D} (h : ∀ i j, f (.int i) (.int j) = pure (.bl (g i j))) (h2 : ∀ x y, (∃ i j, x = .int i ∧ y = .int j) ∨ f x y = M.stuck) : RD K (rI0 fun i j => .bl (g i j)) f := by
  intro W H st x y dx dy Q E hh rx ry hq
  rcases h2 dx dy with ⟨i, j, rfl, rfl⟩ | q
  · rw [h] at hq
    exact ⟨i, j, rx, ry, Fin.ret hq hh rfl⟩
  · rw [q] at hq
    exact hq.elim
theorem rd_lt : RD K (rI0 fun i j => .bl (decide (i < j))) dLt := rd_II (fun _ _ => rfl) fun x y => by cases x <;> cases y <;> first | exact .inl ⟨_, _, rfl, rfl⟩ | exact .inr rfl
theorem rd_le : RD K (rI0 fun i j => .bl (decide (i ≤ j))) dLe := rd_II (fun _ _ => rfl) fun x y => by cases x <;> cases y <;> first | exact .inl ⟨_, _, rfl, rfl⟩ | exact .inr rfl
theorem rd_gt : RD K (rI0 fun i j => .bl (decide (j < i))) dGt := rd_II (fun _ _ => rfl) fun x y => by cases x <;> cases y <;> first | exact .inl ⟨_, _, rfl, rfl⟩ | exact .inr rfl
theorem rd_ge : RD K (rI0 fun i j => .bl (decide (j ≤ i))) dGe := rd_II (fun _ _ => rfl) fun x y => by cases x <;> cases y <;> first | exact .inl ⟨_, _, rfl, rfl⟩ | exact .inr rfl
end
end DL
/-! DL5: in, is, items, slices, built-ins of one argument. -/
namespace DL
open PySem PySem.Spec L2

section
variable {K : PySem.W.Frag} {X : Cx}
/-! ### in, not in, is -/
def rInT (K : PySem.W.Frag) : R2 := fun x y H Q => ∃ d ds, Dp K H x d ∧ Dp K H y (.tuple ds) ∧ SeqAt.shaped d = true ∧ SeqAt.shaped (.tuple ds) = true ∧ Q (.bl (ds.any fun z => PyData.eqv z d)) H
def rNotInT (K : PySem.W.Frag) : R2 := fun x y H Q => ∃ d ds, Dp K H x d ∧ Dp K H y (.tuple ds) ∧ SeqAt.shaped d = true ∧ SeqAt.shaped (.tuple ds) = true ∧ Q (.bl (!ds.any fun z => PyData.eqv z d)) H
theorem op_inT (hu : X.A.units + 65 < cLine) : OpR X (compareOp .In) (rInT X.K) := by
  intro pins s σ H x y v u Q I rx ry h
  obtain ⟨d, ds, hd, he, sd, se, q⟩ := h
  obtain ⟨as, r1⟩ := Dp.reads I d x v hd rx
  obtain ⟨bs, r2⟩ := Dp.reads I (.tuple ds) y u he ry
  exact SeqAt.in_tuple_reads r2 r1 (SeqAt.canLay_of_shaped se) (SeqAt.canLay_of_shaped sd) (PyProof.Rows.room_in_shaped sd hu) ⟨.bl _, H, I, rfl, q⟩
theorem op_notInT (hu : X.A.units + 65 < cLine) : OpR X (compareOp .NotIn) (rNotInT X.K) := by
  intro pins s σ H x y v u Q I rx ry h
  obtain ⟨d, ds, hd, he, sd, se, q⟩ := h
  obtain ⟨as, r1⟩ := Dp.reads I d x v hd rx
  obtain ⟨bs, r2⟩ := Dp.reads I (.tuple ds) y u he ry
  exact SeqAt.notIn_tuple_reads r2 r1 (SeqAt.canLay_of_shaped se) (SeqAt.canLay_of_shaped sd) (PyProof.Rows.room_in_shaped sd hu) ⟨.bl _, H, I, rfl, q⟩
def rInS : R2 := fun x y H Q => ∃ (c : Nat) (z : Str), x = .str ⟨#[c]⟩ ∧ y = .str z ∧ Q (.bl (decide (c ∈ z.cps.toList))) H
def rNotInS : R2 := fun x y H Q => ∃ (c : Nat) (z : Str), x = .str ⟨#[c]⟩ ∧ y = .str z ∧ Q (.bl (!decide (c ∈ z.cps.toList))) H
def rInA (K : PySem.W.Frag) : R2 := fun x y H Q => rInD K x y H Q ∨ rInT K x y H Q ∨ rInS x y H Q
def rNotInA (K : PySem.W.Frag) : R2 := fun x y H Q => rNotInD K x y H Q ∨ rNotInT K x y H Q ∨ rNotInS x y H Q
theorem op_inA (hu : X.A.units + 65 < cLine) : OpR X (compareOp .In) (rInA X.K) := (op_inD hu).or ((op_inT hu).or op_in_sign)
theorem op_notInA (hu : X.A.units + 65 < cLine) : OpR X (compareOp .NotIn) (rNotInA X.K) := (op_notInD hu).or ((op_notInT hu).or op_notIn_sign)
theorem any_py {n : Nat} {d : D} (hd : okD n d = true) : ∀ {ds : List D}, okDs n ds = true → ((toPys ds).any fun z => PyData.eqv z (toPy d)) = ds.any fun y => eqd y d
  | [], _ => by simp [toPys]
  | e :: ds, h => by
    rw [okDs, Bool.and_eq_true] at h
    rw [toPys, List.any_cons, List.any_cons, eqd_py n e d h.1 hd, any_py hd h.2]
mutual
theorem okD_mono : ∀ (d : D) (n m : Nat), n ≤ m → okD n d = true → okD m d = true
  | .non, _, _, _, _ => by rw [okD]
  | .bl _, _, _, _, _ => by rw [okD]
  | .int _, _, _, _, _ => by rw [okD]
  | .str _, _, _, _, _ => by rw [okD]
  | .scr _, _, _, _, h => by rw [okD] at h; cases h
  | .fn _, _, _, _, h => by rw [okD] at h; cases h
  | .adr _, _, _, _, h => by rw [okD] at h; cases h
  | .ref _, _, _, _, h => by rw [okD] at h; cases h
  | .lst _, 0, _, _, h => by rw [okD] at h; cases h
  | .lst _, _ + 1, 0, hm, _ => by omega
  | .lst xs, n + 1, m + 1, hm, h => by
    rw [okD] at h ⊢
    exact okDs_mono xs n m (by omega) h
  | .tup _, 0, _, _, h => by rw [okD] at h; cases h
  | .tup _, _ + 1, 0, hm, _ => by omega
  | .tup xs, n + 1, m + 1, hm, h => by
    rw [okD] at h ⊢
    exact okDs_mono xs n m (by omega) h
theorem okDs_mono : ∀ (ds : List D) (n m : Nat), n ≤ m → okDs n ds = true → okDs m ds = true
  | [], _, _, _, _ => by rw [okDs]
  | d :: ds, n, m, hm, h => by
    rw [okDs, Bool.and_eq_true] at h ⊢
    exact ⟨okD_mono d n m hm h.1, okDs_mono ds n m hm h.2⟩
end
theorem okDs_of_lst {n : Nat} {ys : List D} (h : okD n (.lst ys) = true) : okDs n ys = true := by
  cases n with
  | zero => rw [okD] at h; cases h
  | succ n =>
    have h' : okDs n ys = true := by rw [okD] at h; exact h
    have := okD_mono (.lst ys) (n + 1) (n + 2) (by omega) (by rw [okD]; exact h')
    rw [okD] at this
    exact this
theorem okDs_of_tup {n : Nat} {ys : List D} (h : okD n (.tup ys) = true) : okDs n ys = true := by
  cases n with
  | zero => rw [okD] at h; cases h
  | succ n =>
    have h' : okDs n ys = true := by rw [okD] at h; exact h
    have := okD_mono (.tup ys) (n + 1) (n + 2) (by omega) (by rw [okD]; exact h')
    rw [okD] at this
    exact this
theorem rd_in : RD K (rInA K) dIn := by
  intro W H st x y dx dy Q E hh rx ry hq
  cases dy with
  | lst ys =>
    have hq' : Fin K W H E ((if okD 60 dx = true ∧ okD 60 (.lst ys) = true then pure (.bl (ys.any fun y => eqd y dx)) else M.stuck : M D) st) Q := by
      cases dx <;> exact hq
    by_cases hz : okD 60 dx = true ∧ okD 60 (.lst ys) = true
    · rw [if_pos hz] at hq'
      have h1 := okD_dp 60 (.lst ys) y hz.2 ry
      have h2 := okD_shaped hz.2 ry
      rw [toPy] at h1 h2
      refine .inl ⟨toPy dx, toPys ys, (okD_dp 60 dx x hz.1 rx).1, h1.1, okD_shaped hz.1 rx, h2, ?_⟩
      rw [any_py hz.1 (okDs_of_lst hz.2)]
      exact Fin.ret hq' hh rfl
    · rw [if_neg hz] at hq'
      exact hq'.elim
  | tup ys =>
    have hq' : Fin K W H E ((if okD 60 dx = true ∧ okD 60 (.tup ys) = true then pure (.bl (ys.any fun y => eqd y dx)) else M.stuck : M D) st) Q := by
      cases dx <;> exact hq
    by_cases hz : okD 60 dx = true ∧ okD 60 (.tup ys) = true
    · rw [if_pos hz] at hq'
      have h1 := okD_dp 60 (.tup ys) y hz.2 ry
      have h2 := okD_shaped hz.2 ry
      rw [toPy] at h1 h2
      refine .inr (.inl ⟨toPy dx, toPys ys, (okD_dp 60 dx x hz.1 rx).1, h1.1, okD_shaped hz.1 rx, h2, ?_⟩)
      rw [any_py hz.1 (okDs_of_tup hz.2)]
      exact Fin.ret hq' hh rfl
    · rw [if_neg hz] at hq'
      exact hq'.elim
  | str z =>
    cases dx with
    | str a =>
      match a, rx, hq with
      | [], _, hq => exact hq.elim
      | [c], rx, hq => exact .inr (.inr ⟨c, mkS z, rx.1, ry.1, Fin.ret hq hh rfl⟩)
      | _ :: _ :: _, _, hq => exact hq.elim
    | _ => exact hq.elim
  | _ => cases dx <;> first | exact hq.elim | (rename_i a; cases a <;> exact hq.elim)
theorem rd_notIn : RD K (rNotInA K) dNotIn := by
  intro W H st x y dx dy Q E hh rx ry hq
  cases dy with
  | lst ys =>
    have hq' : Fin K W H E ((if okD 60 dx = true ∧ okD 60 (.lst ys) = true then pure (.bl (!ys.any fun y => eqd y dx)) else M.stuck : M D) st) Q := by
      cases dx <;> exact hq
    by_cases hz : okD 60 dx = true ∧ okD 60 (.lst ys) = true
    · rw [if_pos hz] at hq'
      have h1 := okD_dp 60 (.lst ys) y hz.2 ry
      have h2 := okD_shaped hz.2 ry
      rw [toPy] at h1 h2
      refine .inl ⟨toPy dx, toPys ys, (okD_dp 60 dx x hz.1 rx).1, h1.1, okD_shaped hz.1 rx, h2, ?_⟩
      rw [any_py hz.1 (okDs_of_lst hz.2)]
      exact Fin.ret hq' hh rfl
    · rw [if_neg hz] at hq'
      exact hq'.elim
  | tup ys =>
    have hq' : Fin K W H E ((if okD 60 dx = true ∧ okD 60 (.tup ys) = true then pure (.bl (!ys.any fun y => eqd y dx)) else M.stuck : M D) st) Q := by
      cases dx <;> exact hq
    by_cases hz : okD 60 dx = true ∧ okD 60 (.tup ys) = true
    · rw [if_pos hz] at hq'
      have h1 := okD_dp 60 (.tup ys) y hz.2 ry
      have h2 := okD_shaped hz.2 ry
      rw [toPy] at h1 h2
      refine .inr (.inl ⟨toPy dx, toPys ys, (okD_dp 60 dx x hz.1 rx).1, h1.1, okD_shaped hz.1 rx, h2, ?_⟩)
      rw [any_py hz.1 (okDs_of_tup hz.2)]
      exact Fin.ret hq' hh rfl
    · rw [if_neg hz] at hq'
      exact hq'.elim
  | str z =>
    cases dx with
    | str a =>
      match a, rx, hq with
      | [], _, hq => exact hq.elim
      | [c], rx, hq => exact .inr (.inr ⟨c, mkS z, rx.1, ry.1, Fin.ret hq hh rfl⟩)
      | _ :: _ :: _, _, hq => exact hq.elim
    | _ => exact hq.elim
  | _ => cases dx <;> first | exact hq.elim | (rename_i a; cases a <;> exact hq.elim)
theorem isN_of {W : Wd} {H : Hp} {d : D} {v : V} (r : Rep K W H v d) : decide (v = .non) = isN d := by
  cases d with
  | non => have e : v = .non := r; subst e; rfl
  | bl b => have e : v = .bl b := r; subst e; rfl
  | int b => have e : v = .int b := r; subst e; rfl
  | str b => obtain ⟨e, _⟩ : v = .str (mkS b) ∧ _ := r; subst e; rfl
  | lst xs => obtain ⟨a, _, e, _⟩ := r; subst e; rfl
  | tup xs => obtain ⟨a, _, e, _⟩ := r; subst e; rfl
  | scr xs => obtain ⟨a, e, _⟩ := r; subst e; rfl
  | fn x => have e : v = .ref (He.ga K x) := r; subst e; rfl
  | ref x => obtain ⟨a, e, _⟩ := r; subst e; rfl
  | adr x => have e : v = .ref x := r; subst e; rfl
def rIsA : R2 := fun x y H Q => (y = .non ∧ Q (.bl (decide (x = .non))) H) ∨ ∃ a b, x = .bl a ∧ y = .bl b ∧ Q (.bl (decide (a = b))) H
def rIsNotA : R2 := fun x y H Q => (y = .non ∧ Q (.bl (!decide (x = .non))) H) ∨ ∃ a b, x = .bl a ∧ y = .bl b ∧ Q (.bl (!decide (a = b))) H
theorem op_isA : OpR X (compareOp .Is) rIsA := op_isN.or op_isBl
theorem op_isNotA : OpR X (compareOp .IsNot) rIsNotA := op_notN.or op_notBl
theorem rd_is : RD K rIsA dIs := by
  intro W H st x y dx dy Q E hh rx ry hq
  cases dy with
  | non =>
    have hq' : Fin K W H E ((pure (.bl (isN dx)) : M D) st) Q := by cases dx <;> exact hq
    refine .inl ⟨ry, ?_⟩
    rw [isN_of rx]
    exact Fin.ret hq' hh rfl
  | bl b =>
    cases dx with
    | bl a => exact .inr ⟨a, b, rx, ry, Fin.ret hq hh rfl⟩
    | _ => exact hq.elim
  | _ => cases dx <;> exact hq.elim
theorem rd_isNot : RD K rIsNotA dIsNot := by
  intro W H st x y dx dy Q E hh rx ry hq
  cases dy with
  | non =>
    have hq' : Fin K W H E ((pure (.bl (!isN dx)) : M D) st) Q := by cases dx <;> exact hq
    refine .inl ⟨ry, ?_⟩
    rw [isN_of rx]
    exact Fin.ret hq' hh rfl
  | bl b =>
    cases dx with
    | bl a => exact .inr ⟨a, b, rx, ry, Fin.ret hq hh rfl⟩
    | _ => exact hq.elim
  | _ => cases dx <;> exact hq.elim

/-! ### items -/
def dIndex : D → D → M D
  | .lst xs, .int i => (match atI xs i with | some d => pure d | none => M.stuck)
  | .tup xs, .int i => (match atI xs i with | some d => pure d | none => M.stuck)
  | .str cs, .int i => (match atI cs i with | some c => pure (.str [c]) | none => M.stuck)
  | .scr ns, .int i => (match atI ns i with | some n => pure (.int n) | none => M.stuck)
  | .ref k, .int i => fun st => (match st[k]? with
    | some (.lst xs) => (match atI xs i with | some d => .ok d st | none => .stuck)
    | _ => .stuck)
  | _, _ => M.stuck
theorem atI_rep {W : Wd} {H : Hp} {ds : List D} {vs : List V} {i : Int} {d : D} (r : Reps K W H vs ds) (h : atI ds i = some d) : ∃ v, atI vs i = some v ∧ Rep K W H v d := by
  unfold atI at h ⊢
  rw [r.length]
  cases e : ixN ds.length i with
  | none => rw [e] at h; cases h
  | some j =>
    rw [e] at h
    exact r.get h
theorem atI_mem {α : Type} {xs : List α} {i : Int} {x : α} (h : atI xs i = some x) : x ∈ xs := by
  obtain ⟨j, _, h2, _⟩ := atI_get h
  exact List.mem_of_getElem? h2
theorem rd_index : RD K (rIx K) dIndex := by
  intro W H st x y dx dy Q E hh rx ry hq
  cases dy with
  | int i =>
    cases dx with
    | lst xs =>
      have hq' : Fin K W H E ((match atI xs i with | some d => pure d | none => M.stuck : M D) st) Q := hq
      cases e : atI xs i with
      | none => rw [e] at hq'; exact hq'.elim
      | some d =>
        rw [e] at hq'
        obtain ⟨a, vs, rfl, _, ha, hz, r⟩ := rx
        obtain ⟨v, q1, q2⟩ := atI_rep r e
        exact .inl ⟨a, vs, i, v, rfl, ry, SqL.of ha, q1, Fin.ret hq' hh q2⟩
    | tup xs =>
      have hq' : Fin K W H E ((match atI xs i with | some d => pure d | none => M.stuck : M D) st) Q := hq
      cases e : atI xs i with
      | none => rw [e] at hq'; exact hq'.elim
      | some d =>
        rw [e] at hq'
        obtain ⟨a, vs, rfl, ha, r⟩ := Rep.tupSq rx
        obtain ⟨v, q1, q2⟩ := atI_rep r e
        exact .inr (.inl ⟨a, vs, i, v, rfl, ry, ha, q1, Fin.ret hq' hh q2⟩)
    | str cs =>
      have hq' : Fin K W H E ((match atI cs i with | some d => pure (.str [d]) | none => M.stuck : M D) st) Q := hq
      cases e : atI cs i with
      | none => rw [e] at hq'; exact hq'.elim
      | some c =>
        rw [e] at hq'
        have ho := sOk_iff.mp rx.2
        exact .inr (.inr ⟨mkS cs, i, c, rx.1, ry, by rw [mkS_len]; exact szLine ho.1, e, Fin.ret hq' hh ⟨rfl, sOk_iff.mpr ⟨by simp, fun c' hc' => by
          have : c' = c := by simpa using hc'
          rw [this]
          exact ho.2 c (atI_mem e)⟩⟩⟩)
    | scr ns =>
      have hq' : Fin K W H E ((match atI ns i with | some d => pure (.int d) | none => M.stuck : M D) st) Q := hq
      cases e : atI ns i with
      | none => rw [e] at hq'; exact hq'.elim
      | some n =>
        rw [e] at hq'
        obtain ⟨a, rfl, ha⟩ := Rep.scrSq rx
        refine .inl ⟨a, ns.map V.int, i, .int n, rfl, ry, ha, ?_, Fin.ret hq' hh rfl⟩
        unfold atI at e ⊢
        rw [List.length_map]
        cases e2 : ixN ns.length i with
        | none => rw [e2] at e; cases e
        | some j =>
          rw [e2] at e
          have e' : ns[j]? = some n := e
          show (ns.map V.int)[j]? = some (.int n)
          rw [List.getElem?_map, e']
          rfl
    | ref k =>
      have hq' : Fin K W H E (match st[k]? with
        | some (.lst xs) => (match atI xs i with | some d => .ok d st | none => .stuck)
        | _ => .stuck : R D) Q := hq
      cases e : st[k]? with
      | none => rw [e] at hq'; exact hq'.elim
      | some c =>
        rw [e] at hq'
        cases c with
        | lst xs =>
          have hq2 : Fin K W H E (match atI xs i with | some d => .ok d st | none => .stuck : R D) Q := hq'
          cases e2 : atI xs i with
          | none => rw [e2] at hq2; exact hq2.elim
          | some d =>
            rw [e2] at hq2
            obtain ⟨a, rfl, ha⟩ := rx
            obtain ⟨_, vs, h1, hz, r⟩ := hh.cell k _ a e ha
            obtain ⟨v, q1, q2⟩ := atI_rep r e2
            exact .inl ⟨a, vs, i, v, rfl, ry, SqL.of h1, q1, Fin.ret hq2 hh q2⟩
        | _ => exact hq'.elim
    | _ => exact hq.elim
  | _ => cases dx <;> exact hq.elim
end
section
variable {X : Cx} {E : St → XK} {σd : List Sl} {a b : Expr} {ma mb : M D} {pos p2 : Pos}
theorem de_ix (ha : DE X E σd a ma) (hb : DE X E σd b mb) (hs : PlainIx b) : DE X E σd (.Subscript a b pos) (ma >>= fun x => mb >>= fun y => dIndex x y) :=
  ⟨pe_imp (pe_ix ix_seq ha.pe hb.pe hs) fun σ H Q ⟨W, st, hh, hs, h⟩ =>
    tD_run hh hs h fun d v W1 H1 st1 e1 hh1 hs1 r1 h1 => tD_run hh1 hs1 h1 fun d2 v2 W2 H2 st2 e2 hh2 hs2 r2 h2 => rd_index W2 H2 st2 v v2 d d2 Q (E σ) hh2 (r1.ext e2) r2 h2⟩
/-! ### slices -/
def tDO (K : PySem.W.Frag) (σd : List Sl) (E : St → XK) (m : M (Option Int)) : TO := fun σ H Q => ∃ (W : Wd) (st : Store), Holds K W H st ∧ Slots K W H σd σ ∧ After K W H (E σ) (m st) fun o W' H' _ => Q o H'
structure DO (X : Cx) (E : St → XK) (σd : List Sl) (e : Option Expr) (m : M (Option Int)) : Prop where
  po : PO X e (tDO X.K σd E m)
theorem po_imp {e : Option Expr} {t t' : TO} (h : PO X e t) (f : ∀ σ H Q, t' σ H Q → t σ H Q) : PO X e t' := ⟨fun pins s σ H Q I q => h.run pins s σ H Q I (f σ H Q q)⟩
theorem do_none : DO X E σd none (pure none) := ⟨po_imp po_none fun σ H Q ⟨W, st, hh, hs, h⟩ => h W H Ext.rfl' hh⟩
def asI : D → M (Option Int)
  | .int i => pure (some i)
  | _ => M.stuck
theorem do_some (ha : DE X E σd a ma) : DO X E σd (some a) (ma >>= asI) :=
  ⟨po_imp (po_some ha.pe) fun σ H Q ⟨W, st, hh, hs, h⟩ => tD_run hh hs h fun d v W1 H1 st1 e1 hh1 hs1 r1 h1 => by
    cases d with
    | int i => exact ⟨i, r1, h1 W1 H1 Ext.rfl' hh1⟩
    | _ => exact h1.elim⟩
def cutL {α : Type} (xs : List α) (lo hi : Option Int) : List α := (xs.drop (HT.sIx xs.length 0 lo)).take (HT.sIx xs.length xs.length hi - HT.sIx xs.length 0 lo)
theorem cutL_mem {α : Type} {xs : List α} {lo hi : Option Int} {x : α} (h : x ∈ cutL xs lo hi) : x ∈ xs := List.mem_of_mem_drop (List.mem_of_mem_take h)
theorem cutL_len {α : Type} (xs : List α) (lo hi : Option Int) : (cutL xs lo hi).length ≤ xs.length := by
  unfold cutL
  rw [List.length_take, List.length_drop]
  omega
theorem cutL_whole {α : Type} {xs : List α} {lo hi : Option Int} (h1 : HT.sIx xs.length 0 lo = 0) (h2 : HT.sIx xs.length xs.length hi = xs.length) : cutL xs lo hi = xs := by
  unfold cutL
  rw [h1, h2, List.drop_zero, Nat.sub_zero, List.take_length]
def dSlice : D → Option Int → Option Int → M D
  | .lst xs, lo, hi => pure (.lst (cutL xs lo hi))
  | .tup xs, lo, hi => pure (.tup (cutL xs lo hi))
  | .str cs, lo, hi => pure (.str (cutL cs lo hi))
  | .ref k, lo, hi => fun st => (match st[k]? with
    | some (.lst xs) => .ok (.lst (cutL xs lo hi)) st
    | _ => .stuck)
  | _, _, _ => M.stuck
def rSlAny (K : PySem.W.Frag) : V → Option Int → Option Int → Hp → VK → Prop := fun x lo hi H Q => rSlL K x lo hi H Q ∨ rSlA K x lo hi H Q ∨ rSlS x lo hi H Q
theorem sl_any : SlR X (rSlAny X.K) := sl_list.or (sl_tupA.or sl_str)
theorem Reps.cut {K : PySem.W.Frag} {W : Wd} {H : Hp} {vs : List V} {ds : List D} (r : Reps K W H vs ds) (lo hi : Option Int) : Reps K W H (cutV vs lo hi) (cutL ds lo hi) := by
  unfold cutV cutL
  rw [r.length]
  exact (r.drop _).take _
theorem rs_slice {K : PySem.W.Frag} {W : Wd} {H : Hp} {st : Store} {x : V} {dx : D} {lo hi : Option Int} {Q : VK} {E : XK} (hh : Holds K W H st) (rx : Rep K W H x dx) (hq : Fin K W H E (dSlice dx lo hi st) Q) : rSlAny K x lo hi H Q := by
  cases dx with
  | lst xs =>
    obtain ⟨a, vs, rfl, _, ha, hz, r⟩ := rx
    exact .inl ⟨a, vs, rfl, SqL.of ha, fun p hp => Fin.newL hq hh hp (r.cut lo hi) (Nat.le_trans (cutL_len _ _ _) hz)⟩
  | tup xs =>
    have rx0 := rx
    obtain ⟨a, vs, rfl, ha, r⟩ := Rep.tupSq rx
    refine .inr (.inl ⟨a, vs, rfl, ha, fun ⟨h1, h2⟩ => ?_, fun _ p hp => Fin.newT hq hh hp (r.cut lo hi) (Nat.le_trans (cutL_len _ _ _) (Rep.tupLen rx0))⟩)
    rw [r.length] at h1 h2
    have hq' : Fin K W H E (.ok (.tup (cutL xs lo hi)) st) Q := hq
    rw [cutL_whole h1 h2] at hq'
    exact Fin.ret hq' hh rx0
  | str cs =>
    have ho := sOk_iff.mp rx.2
    refine .inr (.inr ⟨mkS cs, rx.1, by rw [mkS_len]; exact szLine ho.1, ?_⟩)
    have e : cutS (mkS cs) lo hi = mkS (cutL cs lo hi) := by
      unfold cutS cutL
      rw [mkS_len, mkS_cps]
    rw [e]
    exact Fin.ret hq hh ⟨rfl, sOk_sub rx.2 (cutL_len _ _ _) fun c hc => cutL_mem hc⟩
  | ref k =>
    have hq' : Fin K W H E (match st[k]? with
      | some (.lst xs) => .ok (.lst (cutL xs lo hi)) st
      | _ => .stuck : R D) Q := hq
    cases e : st[k]? with
    | none => rw [e] at hq'; exact hq'.elim
    | some c =>
      rw [e] at hq'
      cases c with
      | lst xs =>
        obtain ⟨a, rfl, ha⟩ := rx
        obtain ⟨_, vs, h1, hz, r⟩ := hh.cell k _ a e ha
        exact .inl ⟨a, vs, rfl, SqL.of h1, fun p hp => Fin.newL hq' hh hp (r.cut lo hi) (Nat.le_trans (cutL_len _ _ _) hz)⟩
      | _ => exact hq'.elim
  | _ => exact hq.elim
theorem tDO_run {m : M (Option Int)} {β : Type} {f : Option Int → M β} {σ : St} {H : Hp} {k : β → Wd → Hp → Store → Prop} {W : Wd} {st : Store} {Q : Option Int → Hp → Prop} {K : PySem.W.Frag} (hh : Holds K W H st) (hs : Slots K W H σd σ) (h : After K W H (E σ) ((m >>= f) st) k)
    (g : ∀ d W' H' st', Ext W W' H H' → Holds K W' H' st' → Slots K W' H' σd σ → After K W' H' (E σ) (f d st') k → Q d H') : tDO K σd E m σ H Q :=
  ⟨W, st, hh, hs, (After.next hs hh h).mono fun d W' H' st' _ _ _ ⟨e, h1, h2, h3⟩ => g d W' H' st' e h1 h2 h3⟩
theorem de_slice {lo hi : Option Expr} {ml mh : M (Option Int)} (ha : DE X E σd a ma) (hl : DO X E σd lo ml) (hu : DO X E σd hi mh) : DE X E σd (.Subscript a (.Slice lo hi none p2) pos) (ma >>= fun x => ml >>= fun l => mh >>= fun u => dSlice x l u) :=
  ⟨pe_imp (pe_slice sl_any ha.pe hl.po hu.po) fun σ H Q ⟨W, st, hh, hs, h⟩ =>
    tD_run hh hs h fun d v W1 H1 st1 e1 hh1 hs1 r1 h1 => tDO_run hh1 hs1 h1 fun l W2 H2 st2 e2 hh2 hs2 h2 => tDO_run hh2 hs2 h2 fun u W3 H3 st3 e3 hh3 hs3 h3 => rs_slice hh3 ((r1.ext e2).ext e3) h3⟩
/-! ### built-ins of one argument -/
def RC1 (K : PySem.W.Frag) (r : List V → Hp → VK → Prop) (f : D → M D) : Prop := ∀ (W : Wd) (H : Hp) (st : Store) (x : V) (dx : D) (Q : VK) (E : XK), Holds K W H st → Rep K W H x dx → Fin K W H E (f dx st) Q → r [x] H Q
theorem de_b1 {r : List V → Hp → VK → Prop} {f : D → M D} {id : String} {x : Str} {p : Pos} (hc : CallR X (.builtin id) r) (hf : RC1 X.K r f) (hg : Gl X x) (hm : X.mg x = none) (hv : bootBuiltins x = some (.builtin id)) (ha : DE X E σd a ma) (hn : x ≠ "__name__") (hdb : (x == ("__debug__" : Str)) = false)
    (he : starEach [a] X.env = [(false, eval a X.env)]) : DE X E σd (.Call (.Name x p) [a] [] pos) (ma >>= f) :=
  ⟨pe_imp (pe_callB hc hg hm hv (pa_cons ha.pe pa_nil he) hn hdb he) fun σ H Q ⟨W, st, hh, hs, h⟩ => tD_run hh hs h fun d v W1 H1 st1 e1 hh1 hs1 r1 h1 => hf W1 H1 st1 v d Q (E σ) hh1 r1 h1⟩
theorem de_ty1 {r : List V → Hp → VK → Prop} {f : D → M D} {T : String} {x : Str} {p : Pos} (hc : CallR X (.type T) r) (hf : RC1 X.K r f) (hg : Gl X x) (hm : X.mg x = none) (hv : bootBuiltins x = some (.type T)) (ha : DE X E σd a ma) (hn : x ≠ "__name__") (hdb : (x == ("__debug__" : Str)) = false)
    (he : starEach [a] X.env = [(false, eval a X.env)]) : DE X E σd (.Call (.Name x p) [a] [] pos) (ma >>= f) :=
  ⟨pe_imp (pe_callTy hc hg hm hv (pa_cons ha.pe pa_nil he) hn hdb he) fun σ H Q ⟨W, st, hh, hs, h⟩ => tD_run hh hs h fun d v W1 H1 st1 e1 hh1 hs1 r1 h1 => hf W1 H1 st1 v d Q (E σ) hh1 r1 h1⟩
end
end DL
/-! DL6: what is walked; comprehensions; loops; blocks; calls. -/
namespace DL
open PySem PySem.Spec L2

/-! ### what is walked -/
/-- from (W0, H0) on the iterator J gives the data ds, one by one -/
def Walks (K : PySem.W.Frag) (J : It) (ds : List D) (W0 : Wd) (H0 : Hp) : Prop := ∀ (W : Wd) (H : Hp) (st : Store), Ext W0 W H0 H → Holds K W H st →
  J.stop ds.length H ∧ ∀ (i : Nat) (d : D), ds[i]? = some d → J.go i H ∧ ∀ x H', J.yld i H x H' → ∃ W', Ext W W' H H' ∧ Holds K W' H' st ∧ Rep K W' H' x d
def tDI (K : PySem.W.Frag) (σd : List Sl) (E : St → XK) (m : M (List D)) : TI := fun σ H R => ∃ (W : Wd) (st : Store), Holds K W H st ∧ Slots K W H σd σ ∧ After K W H (E σ) (m st) fun ds W' H' _ => ds.length ≤ 16777216 → ∀ J, Walks K J ds W' H' → R J H'
structure DI (X : Cx) (E : St → XK) (σd : List Sl) (tg e : Expr) (m : M (List D)) : Prop where
  pi : PI X tg e (tDI X.K σd E m)
theorem pi_imp {X : Cx} {tg e : Expr} {t t' : TI} (h : PI X tg e t) (f : ∀ σ H R, t' σ H R → t σ H R) : PI X tg e t' := ⟨fun pins s σ H R I q => h.run pins s σ H R I (f σ H R q)⟩
theorem pi_or {X : Cx} {tg e : Expr} {t t' : TI} (h : PI X tg e t) (h' : PI X tg e t') : PI X tg e (fun σ H R => t σ H R ∨ t' σ H R) := ⟨fun pins s σ H R I q => q.elim (h.run pins s σ H R I) (h'.run pins s σ H R I)⟩
section
variable {K : PySem.W.Frag} {X : Cx} {E : St → XK} {σd : List Sl} {tg a b : Expr} {ma mb : M D} {pos p2 : Pos} {W W' : Wd} {H H' : Hp}
theorem walks_list {p : Addr} {vs : List V} {ds : List D} (nu : ¬ W.U p) (hp : H p = some (.lst vs)) (r : Reps K W H vs ds) : Walks K (Itl K p) ds W H := by
  intro W1 H1 st e hh
  obtain ⟨n1, h1⟩ := e.at nu hp
  have r1 := r.ext e
  refine ⟨⟨vs, SqL.of h1, by rw [r.length]; exact Nat.le_refl _⟩, fun i d hd => ?_⟩
  obtain ⟨v, q1, q2⟩ := r1.get hd
  refine ⟨⟨vs, v, SqL.of h1, q1⟩, fun x H' ⟨e1, e2⟩ => ?_⟩
  subst e1
  have e3 := e2 vs (SqL.of h1)
  rw [q1] at e3
  cases e3
  exact ⟨W1, Ext.rfl', hh, q2⟩
theorem walks_tup {p : Addr} {vs : List V} {ds : List D} (hp : (¬ W.U p ∧ H p = some (.tup vs)) ∨ SqT K (fun _ => none) p vs) (r : Reps K W H vs ds) : Walks K (Itt K p) ds W H := by
  intro W1 H1 st e hh
  have h1 : SqT K H1 p vs := by
    rcases hp with ⟨nu, hp⟩ | hp
    · exact SqT.of (e.at nu hp).2
    · rcases hp with h1 | h1
      · rcases h1 with h1 | ⟨o, h1⟩ <;> cases h1
      · exact .inr h1
  have r1 := r.ext e
  refine ⟨⟨vs, h1, by rw [r.length]; exact Nat.le_refl _⟩, fun i d hd => ?_⟩
  obtain ⟨v, q1, q2⟩ := r1.get hd
  refine ⟨⟨vs, v, h1, q1⟩, fun x H' ⟨e1, e2⟩ => ?_⟩
  subst e1
  have e3 := e2 vs h1
  rw [q1] at e3
  cases e3
  exact ⟨W1, Ext.rfl', hh, q2⟩
theorem walks_str {cs : List Nat} (ho : sOk cs = true) : Walks K (Its (mkS cs)) (cs.map fun c => .str [c]) W H := by
  intro W1 H1 st e hh
  refine ⟨by show (mkS cs).cps.size ≤ _; simp, fun i d hd => ?_⟩
  rw [List.getElem?_map] at hd
  cases q : cs[i]? with
  | none => rw [q] at hd; cases hd
  | some c =>
    rw [q] at hd
    cases hd
    refine ⟨?_, fun x H' ⟨e1, c', e2, e3⟩ => ?_⟩
    · show i < (mkS cs).cps.size
      have := (List.getElem?_eq_some_iff.mp q).1
      simpa using this
    · subst e1
      have e4 : cs[i]? = some c' := by simpa using e2
      rw [q] at e4
      cases e4
      refine ⟨W1, Ext.rfl', hh, e3, ?_⟩
      rw [sOk_iff] at ho ⊢
      exact ⟨by simp, fun c' hc' => by
        have : c' = c := by simpa using hc'
        rw [this]
        exact ho.2 c (List.mem_of_getElem? q)⟩
/-- lo, lo + 1, .. -/
def upFrom (lo : Int) (n : Nat) : List D := (List.range n).map fun (i : Nat) => D.int (lo + (i : Int))
theorem upFrom_len (lo : Int) (n : Nat) : (upFrom lo n).length = n := by simp [upFrom]
theorem walks_range {lo : Int} {n : Nat} : Walks K (Itr lo n) (upFrom lo n) W H := by
  intro W1 H1 st e hh
  have hl : (upFrom lo n).length = n := by simp [upFrom]
  refine ⟨by show n ≤ _; rw [hl]; exact Nat.le_refl _, fun i d hd => ?_⟩
  have hi : i < n := by
    have := (List.getElem?_eq_some_iff.mp hd).1
    rw [hl] at this
    exact this
  refine ⟨hi, fun x H' ⟨e1, e2⟩ => ?_⟩
  subst e1
  refine ⟨W1, Ext.rfl', hh, ?_⟩
  unfold upFrom at hd
  rw [List.getElem?_map, List.getElem?_range hi] at hd
  cases hd
  exact e2
def asW : D → M (List D)
  | .lst xs => pure xs
  | .tup xs => pure xs
  | .str cs => pure (cs.map fun c => .str [c])
  | _ => M.stuck
theorem bind_ok {α β : Type} {m : M α} {f : α → M β} {st st' : Store} {a : α} (h : m st = .ok a st') : (m >>= f) st = f a st' := by
  show (match m st with | .ok a s' => f a s' | .exc e s' => .exc e s' | .stuck => .stuck) = f a st'
  rw [h]
theorem bind_exc {α β : Type} {m : M α} {f : α → M β} {st st' : Store} {e : Ex} (h : m st = .exc e st') : (m >>= f) st = .exc e st' := by
  show (match m st with | .ok a s' => f a s' | .exc e s' => .exc e s' | .stuck => .stuck) = .exc e st'
  rw [h]
theorem bind_stuck {α β : Type} {m : M α} {f : α → M β} {st : Store} (h : m st = .stuck) : (m >>= f) st = .stuck := by
  show (match m st with | .ok a s' => f a s' | .exc e s' => .exc e s' | .stuck => .stuck) = .stuck
  rw [h]
/-- a list, a tuple, a text -/
theorem di_any (ha : DE X E σd a ma) : DI X E σd tg a (ma >>= asW) := by
  refine ⟨pi_imp (pi_or (pi_list ha.pe) (pi_or (pi_tup ha.pe) (pi_str ha.pe))) fun σ H R ⟨W, st, hh, hs, h⟩ => ?_⟩
  cases q : ma st with
  | ok d st1 =>
    rw [bind_ok q] at h
    cases d with
    | lst xs =>
      refine .inl ⟨W, st, hh, hs, ?_⟩
      rw [q]
      rintro W1 H1 e1 hh1 v ⟨p, vs, rfl, nu, hp, hz, r⟩
      exact ⟨p, rfl, ⟨vs, SqL.of hp⟩, h W1 H1 e1 hh1 hz _ (walks_list nu hp r)⟩
    | tup xs =>
      refine .inr (.inl ⟨W, st, hh, hs, ?_⟩)
      rw [q]
      intro W1 H1 e1 hh1 v r0
      obtain ⟨p', vs', e', hp', _⟩ := Rep.tupSq r0
      subst e'
      obtain ⟨p, vs, e, hp, hz, r⟩ := r0
      cases e
      exact ⟨_, rfl, ⟨_, hp'⟩, h W1 H1 e1 hh1 hz _ (walks_tup hp r)⟩
    | str cs =>
      refine .inr (.inr ⟨W, st, hh, hs, ?_⟩)
      rw [q]
      rintro W1 H1 e1 hh1 v ⟨rfl, ho⟩
      exact ⟨_, rfl, h W1 H1 e1 hh1 (by rw [List.length_map]; exact (sOk_iff.mp ho).1) _ (walks_str ho)⟩
    | _ => exact h.elim
  | exc x st1 =>
    rw [bind_exc q] at h
    refine .inl ⟨W, st, hh, hs, ?_⟩
    rw [q]
    exact h
  | stuck =>
    rw [bind_stuck q] at h
    exact h.elim
def rng1 : D → M (List D)
  | .int n => if n < 16777216 ∧ -16777216 ≤ n then pure (upFrom 0 n.toNat) else M.stuck
  | _ => M.stuck
def rng2 : D → D → M (List D)
  | .int m, .int n => if (n < 8388608 ∧ -8388608 ≤ n) ∧ m < 8388608 ∧ -8388608 ≤ m then pure (upFrom m (n - m).toNat) else M.stuck
  | _, _ => M.stuck
theorem di_range1 {p : Pos} (hg : Gl X "range") (hm : X.mg "range" = none) (ha : DE X E σd a ma) (hs : starEach [a] X.env = [(false, eval a X.env)]) : DI X E σd tg (.Call (.Name "range" p) [a] [] pos) (ma >>= rng1) := by
  refine ⟨pi_imp (pi_range1 hg hm (pa_cons ha.pe pa_nil hs) hs) fun σ H R ⟨W, st, hh, hs, h⟩ => tD_run hh hs h fun d v W1 H1 st1 e1 hh1 hs1 r1 h1 => ?_⟩
  cases d with
  | int n =>
    have h2 : After X.K W1 H1 (E σ) ((if n < 16777216 ∧ -16777216 ≤ n then pure (upFrom 0 n.toNat) else M.stuck : M (List D)) st1) fun ds W' H' _ => ds.length ≤ 16777216 → ∀ J, Walks X.K J ds W' H' → R J H' := h1
    by_cases hz : n < 16777216 ∧ -16777216 ≤ n
    · rw [if_pos hz] at h2
      have r1' : v = .int n := r1
      subst r1'
      exact ⟨n, rfl, by omega, by omega, h2 W1 H1 Ext.rfl' hh1 (by rw [upFrom_len]; omega) _ walks_range⟩
    · rw [if_neg hz] at h2
      exact h2.elim
  | _ => exact h1.elim
theorem di_range2 {p : Pos} (hg : Gl X "range") (hm : X.mg "range" = none) (ha : DE X E σd a ma) (hb : DE X E σd b mb) (hs : starEach [a, b] X.env = [(false, eval a X.env), (false, eval b X.env)]) (hs2 : starEach [b] X.env = [(false, eval b X.env)]) : DI X E σd tg (.Call (.Name "range" p) [a, b] [] pos) (ma >>= fun x => mb >>= fun y => rng2 x y) := by
  refine ⟨pi_imp (pi_range2 hg hm (pa_cons ha.pe (pa_cons hb.pe pa_nil hs2) (by rw [hs, hs2])) hs hs2) fun σ H R ⟨W, st, hh, hs, h⟩ => tD_run hh hs h fun d v W1 H1 st1 e1 hh1 hs1 r1 h1 => tD_run hh1 hs1 h1 fun d2 v2 W2 H2 st2 e2 hh2 hs2 r2 h2 => ?_⟩
  cases d with
  | int m =>
    cases d2 with
    | int n =>
      have h3 : After X.K W2 H2 (E σ) ((if (n < 8388608 ∧ -8388608 ≤ n) ∧ m < 8388608 ∧ -8388608 ≤ m then pure (upFrom m (n - m).toNat) else M.stuck : M (List D)) st2) fun ds W' H' _ => ds.length ≤ 16777216 → ∀ J, Walks X.K J ds W' H' → R J H' := h2
      by_cases hz : (n < 8388608 ∧ -8388608 ≤ n) ∧ m < 8388608 ∧ -8388608 ≤ m
      · rw [if_pos hz] at h3
        have r1' : v = .int m := r1
        have r2' : v2 = .int n := r2
        subst r1' r2'
        exact ⟨m, n, rfl, ⟨by omega, by omega, by omega, by omega⟩, h3 W2 H2 Ext.rfl' hh2 (by rw [upFrom_len]; omega) _ walks_range⟩
      · rw [if_neg hz] at h3
        exact h3.elim
    | _ => exact h2.elim
  | _ => cases d2 <;> exact h2.elim
end
end DL
/-! DL7: targets, list comprehensions. -/
namespace DL
open PySem PySem.Spec L2

section
variable {K : PySem.W.Frag} {W W' : Wd} {H H' : Hp} {σd : List Sl} {σ : St} {st : Store} {d : D} {v : V}
/-- a slot is filled -/
theorem Slots.put (s : Slots K W H σd σ) (i : Nat) (r : Rep K W H v d) : Slots K W H (σd.set i (.val d)) (σ.set i (some v)) where
  len := by rw [List.length_set, List.length_set]; exact s.len
  val := fun j e q => by
    by_cases h : j = i
    · subst h
      by_cases hl : j < σd.length
      · rw [List.getElem?_set_self hl] at q
        cases q
        exact ⟨v, List.getElem?_set_self (by rw [s.len]; exact hl), r⟩
      · rw [List.getElem?_eq_none (by rw [List.length_set]; omega)] at q
        cases q
    · rw [List.getElem?_set_ne (Ne.symm h)] at q ⊢
      exact s.val j e q
/-- slots forgotten -/
def wipeD (σd : List Sl) : List Nat → List Sl
  | [] => σd
  | v :: vs => (wipeD σd vs).set v .none
theorem Slots.drop (s : Slots K W H σd σ) (i : Nat) (o : Option V) : Slots K W H (σd.set i .none) (σ.set i o) where
  len := by rw [List.length_set, List.length_set]; exact s.len
  val := fun j e q => by
    have h : j ≠ i := fun h => by
      subst h
      by_cases hl : j < σd.length
      · rw [List.getElem?_set_self hl] at q
        cases q
      · rw [List.getElem?_eq_none (by rw [List.length_set]; omega)] at q
        cases q
    rw [List.getElem?_set_ne (Ne.symm h)] at q ⊢
    exact s.val j e q
theorem Slots.wipe (s : Slots K W H σd σ) : ∀ vs : List Nat, Slots K W H (wipeD σd vs) (L2.wipe σ vs)
  | [] => s
  | i :: vs => (Slots.wipe s vs).drop i none
theorem set_none_comm (σ : St) (i j : Nat) : (σ.set i (none : Option V)).set j none = (σ.set j none).set i none := by
  by_cases h : i = j
  · rw [h]
  · rw [List.set_comm _ _ h]
theorem wipe_out (σ : St) (i : Nat) : ∀ vs : List Nat, L2.wipe (σ.set i none) vs = (L2.wipe σ vs).set i none
  | [] => rfl
  | j :: vs => by
    show (L2.wipe (σ.set i none) vs).set j none = ((L2.wipe σ vs).set j none).set i none
    rw [wipe_out σ i vs, set_none_comm]
theorem wipe_set (σ : St) (i : Nat) (o : Option V) : ∀ vs : List Nat, i ∈ vs → L2.wipe (σ.set i o) vs = L2.wipe σ vs
  | j :: vs, h => by
    show (L2.wipe (σ.set i o) vs).set j none = (L2.wipe σ vs).set j none
    by_cases hi : i ∈ vs
    · rw [wipe_set σ i o vs hi]
    · have e : i = j := by
        rcases List.mem_cons.mp h with e | e
        · exact e
        · exact absurd e hi
      subst e
      have key : ∀ (τ : St) (ws : List Nat), (L2.wipe τ ws).set i none = L2.wipe (τ.set i none) ws := fun τ ws => (wipe_out τ i ws).symm
      rw [key, key, List.set_set]
theorem wipe_wipe (σ : St) : ∀ vs : List Nat, L2.wipe (L2.wipe σ vs) vs = L2.wipe σ vs := by
  have key : ∀ (ws vs : List Nat), (∀ i ∈ ws, i ∈ vs) → L2.wipe (L2.wipe σ ws) vs = L2.wipe σ vs := by
    intro ws
    induction ws with
    | nil => intro vs _; rfl
    | cons j ws ih =>
      intro vs h
      show L2.wipe ((L2.wipe σ ws).set j none) vs = _
      rw [wipe_set _ _ _ vs (h j List.mem_cons_self), ih vs fun i hi => h i (List.mem_cons_of_mem _ hi)]
  exact fun vs => key vs vs fun i hi => hi
end

/-! ### targets -/
/-- a target: what it wants of the datum (dec), what the slots are behind it (up); its slots are among ix -/
structure GOk (K : PySem.W.Frag) {P : Type} (g : TG) (ix : List Nat) (dec : D → Option P) (up : P → List Sl → List Sl) : Prop where
  run : ∀ (W : Wd) (H : Hp) (st : Store) (σd : List Sl) (σ : St) (d : D) (v : V) (p : P) (Q : St → Hp → Prop), Holds K W H st → Slots K W H σd σ → Rep K W H v d → dec d = some p →
    (∀ σ', Slots K W H (up p σd) σ' → (∀ vs, (∀ i ∈ ix, i ∈ vs) → L2.wipe σ' vs = L2.wipe σ vs) → Q σ' H) → g v σ H Q
def dec1 : D → Option D := some
def dec2 : D → Option (D × D)
  | .tup [a, b] => some (a, b)
  | _ => none
def dec3 : D → Option (D × D × D)
  | .tup [a, b, c] => some (a, b, c)
  | _ => none
section
variable {K : PySem.W.Frag}
theorem g_name (i : Nat) : GOk K (gName i) [i] dec1 (fun d s => s.set i (.val d)) := ⟨fun W H st σd σ d v p Q hh hs r e k => by
  cases e
  exact k _ (hs.put i r) fun vs h => wipe_set σ i _ vs (h i (by simp))⟩
theorem g_tup2 (i j : Nat) : GOk K (gTup K 2 (gCons (gName i) (gCons (gName j) gNil))) [i, j] dec2 (fun p s => (s.set i (.val p.1)).set j (.val p.2)) := ⟨fun W H st σd σ d v p Q hh hs r e k => by
  unfold dec2 at e
  split at e
  · rename_i a b
    cases e
    obtain ⟨q, vs, rfl, hq, r1⟩ := Rep.tupSq r
    obtain ⟨x, r', rfl, hx, r2⟩ := r1
    obtain ⟨y, r'', rfl, hy, r3⟩ := r2
    have e3 : r'' = [] := r3
    subst e3
    refine ⟨q, _, rfl, hq, rfl, x, _, rfl, y, _, rfl, rfl, ?_⟩
    exact k _ ((hs.put i hx).put j hy) fun ws h => by rw [wipe_set _ j _ ws (h j (by simp)), wipe_set _ i _ ws (h i (by simp))]
  · cases e⟩
theorem g_tup3 (i j l : Nat) : GOk K (gTup K 3 (gCons (gName i) (gCons (gName j) (gCons (gName l) gNil)))) [i, j, l] dec3 (fun p s => ((s.set i (.val p.1)).set j (.val p.2.1)).set l (.val p.2.2)) := ⟨fun W H st σd σ d v p Q hh hs r e k => by
  unfold dec3 at e
  split at e
  · rename_i a b c
    cases e
    obtain ⟨q, vs, rfl, hq, r1⟩ := Rep.tupSq r
    obtain ⟨x, r', rfl, hx, r2⟩ := r1
    obtain ⟨y, r'', rfl, hy, r3⟩ := r2
    obtain ⟨z, r''', rfl, hz, r4⟩ := r3
    have e3 : r''' = [] := r4
    subst e3
    refine ⟨q, _, rfl, hq, rfl, x, _, rfl, y, _, rfl, z, _, rfl, rfl, ?_⟩
    exact k _ (((hs.put i hx).put j hy).put l hz) fun ws h => by rw [wipe_set _ l _ ws (h l (by simp)), wipe_set _ j _ ws (h j (by simp)), wipe_set _ i _ ws (h i (by simp))]
  · cases e⟩
end

/-! ### list comprehensions -/
/-- an error that leaves here is not followed -/
def nox {α : Type} (m : M α) : M α := fun st => match m st with
  | .exc _ _ => .stuck
  | r => r
@[simp] theorem nox_pure {α : Type} (a : α) : nox (pure a : M α) = pure a := rfl
@[simp] theorem nox_stuck {α : Type} : nox (M.stuck : M α) = M.stuck := rfl
@[simp] theorem nox_throw {α : Type} (e : Ex) : nox (M.throw e : M α) = M.stuck := rfl
theorem nox_bind {α β : Type} (m : M α) (f : α → M β) : nox (m >>= f) = nox m >>= fun x => nox (f x) := by
  funext st
  show (match (match m st with | .ok a s' => f a s' | .exc e s' => .exc e s' | .stuck => .stuck : R β) with | .exc _ _ => .stuck | r => r) =
    (match (match m st with | .exc _ _ => .stuck | r => r : R α) with | .ok a s' => (match f a s' with | .exc _ _ => .stuck | r => r) | .exc e s' => .exc e s' | .stuck => .stuck : R β)
  cases m st <;> rfl
theorem After.nox {α : Type} {K : PySem.W.Frag} {W : Wd} {H : Hp} {E : XK} {m : M α} {st : Store} {k : α → Wd → Hp → Store → Prop} (h : After K W H E (nox m st) k) (E' : XK) : After K W H E' (m st) k := by
  have h' : After K W H E (match m st with | .exc _ _ => .stuck | r => r : R α) k := h
  cases q : m st with
  | ok a s => rw [q] at h'; exact h'
  | exc e s => rw [q] at h'; exact h'.elim
  | stuck => rw [q] at h'; exact h'.elim
def compM {P : Type} (dec : D → Option P) (test : P → M Bool) (elt : P → M D) : List D → M (List D)
  | [] => pure []
  | d :: ds => match dec d with
    | none => M.stuck
    | some p => nox (test p) >>= fun b => if b = true then nox (elt p) >>= fun y => compM dec test elt ds >>= fun r => pure (y :: r) else compM dec test elt ds
abbrev E0' : St → XK := fun _ _ _ _ => False
theorem pe_ex {X : Cx} {e : Expr} {α : Type} {t : α → TE} (h : ∀ a, PE X e (t a)) : PE X e (fun σ H Q => ∃ a, t a σ H Q) := ⟨fun pins s σ H Q I ⟨a, q⟩ => (h a).run pins s σ H Q I q⟩
theorem pt_ex {X : Cx} {e : Expr} {α : Type} {t : α → TT} (h : ∀ a, PT X e (t a)) : PT X e (fun σ H Q => ∃ a, t a σ H Q) := ⟨fun pins s σ H Q I ⟨a, q⟩ => (h a).run pins s σ H Q I q⟩
theorem pts_ex {X : Cx} {es : List Expr} {α : Type} {t : α → TT} (h : ∀ a, PTs X es (t a)) : PTs X es (fun σ H Q => ∃ a, t a σ H Q) := ⟨fun pins s σ H Q I ⟨a, q⟩ => (h a).run pins s σ H Q I q⟩
structure DTs (X : Cx) (E : St → XK) (σd : List Sl) (es : List Expr) (m : M Bool) : Prop where
  pts : PTs X es (tDT X.K σd E m)
theorem dts_nil {X : Cx} {E : St → XK} {σd : List Sl} : DTs X E σd [] (pure true) := ⟨⟨fun pins s σ H Q I ⟨W, st, hh, hs, h⟩ => pts_nil.run pins s σ H Q I (h W H Ext.rfl' hh)⟩⟩
theorem dts_one {X : Cx} {E : St → XK} {σd : List Sl} {e : Expr} {m : M Bool} (h : DT X E σd e m) : DTs X E σd [e] m := ⟨pts_one h.pt⟩
mutual
/-- an object that no datum leans on is written -/
theorem Rep.upd {K : PySem.W.Frag} {W : Wd} {H : Hp} {p : Addr} {o : HO} (hu : W.U p) : ∀ (d : D) (v : V), Rep K W H v d → Rep K W (upd H p o) v d
  | .non, _, h => h
  | .bl _, _, h => h
  | .int _, _, h => h
  | .str _, _, h => h
  | .lst xs, _, h => by
    obtain ⟨a, vs, rfl, nu, ha, hz, r⟩ := h
    exact ⟨a, vs, rfl, nu, by rw [upd_ne (a := p) (b := a) fun e => nu (e ▸ hu)]; exact ha, hz, Reps.upd hu xs vs r⟩
  | .tup xs, _, h => by
    obtain ⟨a, vs, rfl, h1, hz, r⟩ := h
    exact ⟨a, vs, rfl, h1.imp (fun ⟨nu, ha⟩ => ⟨nu, by rw [upd_ne (a := p) (b := a) fun e => nu (e ▸ hu)]; exact ha⟩) id, hz, Reps.upd hu xs vs r⟩
  | .scr ns, _, h => by
    obtain ⟨a, rfl, h1⟩ := h
    exact ⟨a, rfl, h1.imp (fun ⟨nu, oo, ho, ha⟩ => ⟨nu, oo, ho, by rw [upd_ne (a := p) (b := a) fun e => nu (e ▸ hu)]; exact ha⟩) id⟩
  | .fn _, _, h => h
  | .adr _, _, h => h
  | .ref i, _, h => h
theorem Reps.upd {K : PySem.W.Frag} {W : Wd} {H : Hp} {p : Addr} {o : HO} (hu : W.U p) : ∀ (ds : List D) (vs : List V), Reps K W H vs ds → Reps K W (L2.upd H p o) vs ds
  | [], _, h => h
  | d :: ds, _, h => by
    obtain ⟨v, r, rfl, h1, h2⟩ := h
    exact ⟨v, r, rfl, Rep.upd hu d v h1, Reps.upd hu ds r h2⟩
end
theorem FsOk.upd {K : PySem.W.Frag} {W : Wd} {H : Hp} {p : Addr} {o : HO} (hu : W.U p) : ∀ {fs : List (Str × D)} {vfs : List (Str × V)}, FsOk K W H vfs fs → FsOk K W (L2.upd H p o) vfs fs
  | [], _, h => h
  | (x, d) :: fs, _, h => by
    obtain ⟨v, r, rfl, h1, h2⟩ := h
    exact ⟨v, r, rfl, h1.upd hu, FsOk.upd hu h2⟩
/-- the list that a comprehension fills: kept out of the data -/
def Wd.with (W : Wd) (p : Addr) : Wd := ⟨W.mu, fun a => W.U a ∨ a = p⟩
def Wd.less (W : Wd) (p : Addr) : Wd := ⟨W.mu, fun a => W.U a ∧ a ≠ p⟩
/-- an object that is new behind (W, H) is written -/
theorem Ext.mine {W W1 : Wd} {H H1 : Hp} {p : Addr} {o : HO} (e : Ext W W1 H H1) (hp : H p = none) : Ext W W1 H (upd H1 p o) where
  mu := e.mu
  u0 := e.u0
  new := e.new
  keep := fun a u hu q => by
    rw [upd_ne (ne_of_none q hp)]
    exact e.keep a u hu q
  dom := fun a u q => by
    rw [upd_ne (ne_of_none q hp)]
    exact e.dom a u q
theorem Holds.mine {K : PySem.W.Frag} {W : Wd} {H : Hp} {st : Store} {p : Addr} {o : HO} (hh : Holds K W H st) (hu : W.U p) (hm : p ∉ W.mu) : Holds K W (upd H p o) st := by
  refine ⟨hh.len, hh.nd, fun a h => ?_, fun a h => ?_, fun i c a h1 h2 => ?_⟩
  · by_cases e : a = p
    · exact ⟨o, by rw [e]; exact upd_same⟩
    · rw [upd_ne e]; exact hh.dom a h
  · by_cases e : a = p
    · exact ⟨o, by rw [e]; exact upd_same⟩
    · rw [upd_ne e]; exact hh.muAt a h
  · have ne : a ≠ p := fun e => by subst e; exact hm (List.mem_of_getElem? h2)
    have key : ∀ (d : D) (v : V), Rep K W H v d → Rep K W (upd H p o) v d := fun d v r => r.upd hu
    have c0 := hh.cell i c a h1 h2
    cases c with
    | lst xs => obtain ⟨u1, vs, q1, hz, q2⟩ := c0; exact ⟨u1, vs, by rw [upd_ne ne]; exact q1, hz, q2.upd hu⟩
    | ins C fs => obtain ⟨u1, dx, vfs, q1, q2⟩ := c0; exact ⟨u1, dx, vfs, by rw [upd_ne ne]; exact q1, FsOk.upd hu q2⟩
    | dead => trivial
    | tab x q =>
      obtain ⟨u1, e1, ps, h1, h2, h3⟩ := c0
      exact ⟨u1, e1, ps, by rw [upd_ne ne]; exact h1, h2, fun pos cv hc => let ⟨c, q1, q2, q3⟩ := h3 pos cv hc; ⟨c, q1, q2, by rw [upd_ne (a := p) (b := c) fun e => q2 (e ▸ hu)]; exact q3⟩⟩
/-- a list is taken as the frame's own -/
theorem Ext.with {W : Wd} {H : Hp} {p : Addr} {o : HO} (hp : H p = none) : Ext W (W.with p) H (upd H p o) where
  mu := ⟨[], by simp [Wd.with], by simp⟩
  u0 := fun a o h _ _ => .inl h
  new := fun a h => h.elim .inl fun e => .inr (by rw [e]; exact hp)
  keep := fun a u _ q => by rw [upd_ne (ne_of_none q hp)]; exact q
  dom := fun a u q => ⟨u, by rw [upd_ne (ne_of_none q hp)]; exact q⟩
theorem Holds.with {K : PySem.W.Frag} {W : Wd} {H : Hp} {st : Store} {p : Addr} {o : HO} (hh : Holds K W H st) (hp : H p = none) : Holds K (W.with p) (upd H p o) st where
  len := hh.len
  nd := hh.nd
  dom := fun a h => by
    rcases h with h | h
    · obtain ⟨u, q⟩ := hh.dom a h
      exact ⟨u, by rw [upd_ne (ne_of_none q hp)]; exact q⟩
    · subst h; exact ⟨o, upd_same⟩
  muAt := fun a z => let ⟨o', q⟩ := hh.muAt a z; ⟨o', by rw [upd_ne (ne_of_none q hp)]; exact q⟩
  cell := fun i c a h1 h2 => (hh.cell i c a h1 h2).ext (Ext.with hp) (fun u q => by rw [upd_ne (ne_of_none q hp)]; exact q) .inl
/-- .. and given away -/
theorem Ext.less {W W1 : Wd} {H H1 : Hp} {p : Addr} (e : Ext W W1 H H1) (hp : H p = none) : Ext W (W1.less p) H H1 where
  mu := e.mu
  u0 := fun a o hu hm q => ⟨e.u0 a o hu hm q, ne_of_none q hp⟩
  new := fun a h => e.new a h.1
  keep := e.keep
  dom := e.dom
mutual
/-- less is kept out of the data -/
theorem Rep.mono {K : PySem.W.Frag} {W W' : Wd} {H : Hp} (hm : W'.mu = W.mu) (hu : ∀ a, W'.U a → W.U a) : ∀ (d : D) (v : V), Rep K W H v d → Rep K W' H v d
  | .non, _, h => h
  | .bl _, _, h => h
  | .int _, _, h => h
  | .str _, _, h => h
  | .lst xs, _, h => by
    obtain ⟨a, vs, rfl, nu, ha, hz, r⟩ := h
    exact ⟨a, vs, rfl, fun z => nu (hu _ z), ha, hz, Reps.mono hm hu xs vs r⟩
  | .tup xs, _, h => by
    obtain ⟨a, vs, rfl, h1, hz, r⟩ := h
    refine ⟨a, vs, rfl, ?_, hz, Reps.mono hm hu xs vs r⟩
    exact h1.imp (fun ⟨nu, ha⟩ => ⟨fun z => nu (hu _ z), ha⟩) id
  | .scr ns, _, h => by
    obtain ⟨a, rfl, h1⟩ := h
    exact ⟨a, rfl, h1.imp (fun ⟨nu, ha⟩ => ⟨fun z => nu (hu _ z), ha⟩) id⟩
  | .fn _, _, h => h
  | .adr _, _, h => h
  | .ref i, _, h => by
    obtain ⟨a, rfl, h⟩ := h
    exact ⟨a, rfl, by rw [hm]; exact h⟩
theorem Reps.mono {K : PySem.W.Frag} {W W' : Wd} {H : Hp} (hm : W'.mu = W.mu) (hu : ∀ a, W'.U a → W.U a) : ∀ (ds : List D) (vs : List V), Reps K W H vs ds → Reps K W' H vs ds
  | [], _, h => h
  | d :: ds, _, h => by
    obtain ⟨v, r, rfl, h1, h2⟩ := h
    exact ⟨v, r, rfl, Rep.mono hm hu d v h1, Reps.mono hm hu ds r h2⟩
end
theorem FsOk.mono {K : PySem.W.Frag} {W W' : Wd} {H : Hp} (hm : W'.mu = W.mu) (hu : ∀ a, W'.U a → W.U a) : ∀ {fs : List (Str × D)} {vfs : List (Str × V)}, FsOk K W H vfs fs → FsOk K W' H vfs fs
  | [], _, h => h
  | (x, d) :: fs, _, h => by
    obtain ⟨v, r, rfl, h1, h2⟩ := h
    exact ⟨v, r, rfl, h1.mono hm hu, FsOk.mono hm hu h2⟩
theorem Holds.less {K : PySem.W.Frag} {W : Wd} {H : Hp} {st : Store} {p : Addr} (hh : Holds K W H st) (hm : p ∉ W.mu) : Holds K (W.less p) H st where
  len := hh.len
  nd := hh.nd
  dom := fun a h => hh.dom a h.1
  muAt := hh.muAt
  cell := fun i c a h1 h2 => by
    have c0 := hh.cell i c a h1 h2
    have ne : a ≠ p := fun e => by subst e; exact hm (List.mem_of_getElem? h2)
    cases c with
    | lst xs => obtain ⟨u1, vs, q1, hz, q2⟩ := c0; exact ⟨⟨u1, ne⟩, vs, q1, hz, Reps.mono (W := W) (W' := W.less p) rfl (fun _ z => z.1) _ _ q2⟩
    | ins C fs => obtain ⟨u1, dx, vfs, q1, q2⟩ := c0; exact ⟨⟨u1, ne⟩, dx, vfs, q1, FsOk.mono (W := W) (W' := W.less p) rfl (fun _ z => z.1) q2⟩
    | dead => trivial
    | tab x q =>
      obtain ⟨u1, e1, ps, h1, h2, h3⟩ := c0
      exact ⟨⟨u1, ne⟩, e1, ps, h1, h2, fun pos cv hc => let ⟨c, q1, q2, q3⟩ := h3 pos cv hc; ⟨c, q1, fun z => q2 z.1, q3⟩⟩
section
variable {K : PySem.W.Frag} {X : Cx} {E : St → XK} {σd : List Sl}
/-- one comprehension's reading -/
theorem comp_reads {P : Type} {dec : D → Option P} {up : P → List Sl → List Sl} {test : P → M Bool} {elt : P → M D} {g : TG} {ix vs : List Nat} (hg : GOk K g ix dec up) (hix : ∀ i ∈ ix, i ∈ vs) {ds : List D} {J : It} {W : Wd} {H : Hp} {st : Store} {σ : St} {Q : VK} {EE : XK}
    (hJ : Walks K J ds W H) (hz : ds.length ≤ 16777216) (hh : Holds K W H st) (hs : Slots K W H σd σ) (h : Fin K W H EE ((compM dec test elt ds >>= fun r => pure (D.lst r)) st) Q) :
    ∀ Dl, H Dl = none → ∃ Wm : Nat → Nat → Hp → Prop, (∃ m, Wm 0 m (upd H Dl (.lst []))) ∧ ∀ i m H, Wm i m H →
      (J.stop i H ∧ Q (.ref Dl) H) ∨ (J.go i H ∧ ∃ Nx : Hp → Prop, (∀ H', Nx H' → ∃ m', m' < m ∧ Wm (i + 1) m' H') ∧ ∀ x H', J.yld i H x H' → g x (L2.wipe σ vs) H' fun σ2 H2 => L2.wipe σ2 vs = L2.wipe σ vs ∧
        (∃ p, tDT K (up p (wipeD σd vs)) E0' (test p) σ2 H2 fun b H3 =>
          if b = true then (∃ p, tD K (up p (wipeD σd vs)) E0' (elt p) σ2 H3 fun y H4 => ∃ acc, H4 Dl = some (.lst acc) ∧ acc.length < sizeLine ∧ Nx (upd H4 Dl (.lst (acc ++ [y])))) else Nx H3)) := by
  intro Dl hDl
  have nDl : ¬ W.U Dl := hh.fresh hDl
  -- the invariant: behind i items the list holds acc, the rest is to come
  refine ⟨fun i m H1 => m = ds.length - i ∧ i ≤ ds.length ∧ ∃ (W1 : Wd) (st1 : Store) (acc : List D) (ws : List V), Ext W W1 H H1 ∧ Holds K W1 H1 st1 ∧ W1.U Dl ∧ Dl ∉ W1.mu ∧ H1 Dl = some (.lst ws) ∧ Reps K W1 H1 ws acc ∧ acc.length ≤ i ∧
      After K W H EE (compM dec test elt (ds.drop i) st1) fun r W2 H2 st2 => ∀ v, Rep K W2 H2 v (.lst (acc ++ r)) → Q v H2, ?_, ?_⟩
  · refine ⟨ds.length, by omega, Nat.zero_le _, W.with Dl, st, [], [], Ext.with hDl, hh.with hDl, .inr rfl, ?_, upd_same, Reps.nil, Nat.le_refl _, ?_⟩
    · exact hh.muDom Dl hDl
    have h1 := After.bind h
    rw [List.drop_zero]
    refine h1.mono fun r W2 H2 st2 _ e2 hh2 q v rv => ?_
    exact After.pure' q hh2 v (by simpa using rv)
  · rintro i m H1 ⟨rfl, hi, W1, st1, acc, ws, e1, hh1, u1, m1, d1, r1, l1, a1⟩
    obtain ⟨js, jg⟩ := hJ W1 H1 st1 e1 hh1
    have s1 := hs.ext e1
    by_cases hlt : i < ds.length
    · refine .inr ?_
      have hd : ds[i]? = some ds[i] := List.getElem?_eq_getElem hlt
      obtain ⟨go, yld⟩ := jg i ds[i] hd
      refine ⟨go, fun H' => ∃ m', m' < ds.length - i ∧ (m' = ds.length - (i + 1) ∧ i + 1 ≤ ds.length ∧ ∃ (W1 : Wd) (st1 : Store) (acc : List D) (ws : List V), Ext W W1 H H' ∧ Holds K W1 H' st1 ∧ W1.U Dl ∧ Dl ∉ W1.mu ∧ H' Dl = some (.lst ws) ∧ Reps K W1 H' ws acc ∧ acc.length ≤ i + 1 ∧
        After K W H EE (compM dec test elt (ds.drop (i + 1)) st1) fun r W2 H2 st2 => ∀ v, Rep K W2 H2 v (.lst (acc ++ r)) → Q v H2), fun H' hn => hn, fun x H2 hy => ?_⟩
      obtain ⟨W2, e2, hh2, rx⟩ := yld x H2 hy
      have e02 : Ext W W2 H H2 := e1.trans e2
      rw [List.drop_eq_getElem_cons hlt] at a1
      unfold compM at a1
      cases hdec : dec ds[i] with
      | none => rw [hdec] at a1; exact a1.elim
      | some p =>
        rw [hdec] at a1
        have s2 := s1.ext e2
        have a2 : After K W H EE ((nox (test p) >>= fun b => if b = true then nox (elt p) >>= fun y => compM dec test elt (List.drop (i + 1) ds) >>= fun r => pure (y :: r) else compM dec test elt (List.drop (i + 1) ds)) st1) _ := a1
        refine hg.run W2 H2 st1 _ _ ds[i] x p _ hh2 (s2.wipe vs) rx hdec fun σ2 hs2 hw => ⟨by rw [hw vs hix, wipe_wipe], p, W2, st1, hh2, hs2, ?_⟩
        have b2 := (After.bind a2).shift e02
        refine (b2.nox (E0' σ2)).mono fun b W3 H3 st3 _ e3 hh3 q3 => ?_
        have e03 : Ext W W3 H H3 := e02.trans e3
        have keepD : ∀ {Wa Wb : Wd} {Ha Hb : Hp} {o : HO}, Dl ∉ Wa.mu → Wa.U Dl → Ha Dl = some o → Ext Wa Wb Ha Hb → Dl ∉ Wb.mu ∧ Wb.U Dl ∧ Hb Dl = some o := fun hm hu hd e => by
          refine ⟨fun z => ?_, e.u0 _ _ hu hm hd, e.keep _ _ (fun _ => hm) hd⟩
          rcases e.memMu z with z | z
          · exact hm z
          · rw [hd] at z; cases z
        obtain ⟨m2, u2, d2⟩ := keepD m1 u1 d1 e2
        obtain ⟨m3, u3, d3⟩ := keepD m2 u2 d2 e3
        have back : ∀ {α β : Type} {mm : M α} {ff : α → M β} {k : β → Wd → Hp → Store → Prop} {a : α} {st2 st3 : Store}, mm st2 = .ok a st3 → After K W H EE ((nox mm >>= ff) st2) k → After K W H EE (ff a st3) k := fun {α β mm ff k a st2 st3} q z => by
          have q' : nox mm st2 = .ok a st3 := by unfold nox; rw [q]
          rw [bind_ok q'] at z; exact z
        cases b with
        | true =>
          show ∃ p, tD K (up p (wipeD σd vs)) E0' (elt p) σ2 H3 _
          refine ⟨p, W3, st3, hh3, hs2.ext e3, ?_⟩
          rename_i qt
          have q3' : After K W H EE ((nox (elt p) >>= fun y => compM dec test elt (List.drop (i + 1) ds) >>= fun r => pure (y :: r)) st3) (fun r W2 H2 st2 => ∀ v, Rep K W2 H2 v (.lst (acc ++ r)) → Q v H2) := by
            have z := back qt a2
            exact z
          refine (((After.bind q3').shift e03).nox (E0' σ2)).mono fun y W4 H4 st4 qy e4 hh4 _ v rv => ?_
          have q4 := back qy q3'
          have e04 : Ext W W4 H H4 := e03.trans e4
          obtain ⟨m4, u4, d4⟩ := keepD m3 u3 d3 e4
          have r4 : Reps K W4 H4 ws acc := ((r1.ext e2).ext e3).ext e4
          have hl : ws.length < sizeLine := by rw [r4.length, sizeLine_eq]; omega
          refine ⟨ws, d4, hl, ds.length - (i + 1), by omega, rfl, hlt, W4, st4, acc ++ [y], ws ++ [v], ?_⟩
          have e45 : Ext W W4 H (upd H4 Dl (.lst (ws ++ [v]))) := e04.mine hDl
          refine ⟨e45, hh4.mine u4 m4, u4, m4, upd_same, (r4.append (.cons rv .nil)).upd u4, by rw [List.length_append, List.length_singleton]; omega, ?_⟩
          refine (After.bind q4).mono fun r W5 H5 st5 _ e5 hh5 q5 v5 rv5 => ?_
          exact After.pure' q5 hh5 v5 (by simpa using rv5)
        | false =>
          show ∃ m', _
          rename_i qt
          refine ⟨ds.length - (i + 1), by omega, rfl, hlt, W3, st3, acc, ws, e03, hh3, u3, m3, d3, (r1.ext e2).ext e3, by omega, ?_⟩
          have z := back qt a2
          exact z
    · have e : i = ds.length := by omega
      subst e
      refine .inl ⟨js, ?_⟩
      rw [List.drop_length] at a1
      have a2 : After K W H EE ((pure [] : M (List D)) st1) _ := a1
      have q := a2 (W1.less Dl) H1 (e1.less hDl) (hh1.less m1) (.ref Dl)
      refine q ⟨Dl, ws, rfl, fun z => z.2 rfl, d1, by simp; omega, ?_⟩
      have : Reps K (W1.less Dl) H1 ws acc := Reps.mono (W := W1) (W' := W1.less Dl) rfl (fun _ z => z.1) _ _ r1
      simpa using this
end
end DL
/-! DL8: comprehensions as expressions; blocks. -/
namespace DL
open PySem PySem.Spec L2

section
variable {X : Cx} {E : St → XK} {σd : List Sl} {tg iter elt : Expr} {ifs : List Expr} {scope : Scope} {pos : Pos} {mi : M (List D)}
theorem lc_reads {P : Type} {dec : D → Option P} {up : P → List Sl → List Sl} {test : P → M Bool} {me : P → M D} {g : TG} {ix vs : List Nat} {K : PySem.W.Frag} (hg : GOk K g ix dec up) (hix : ∀ i ∈ ix, i ∈ vs) {σ : St} {H : Hp} {Q : VK}
    (h : tD K σd E (mi >>= fun ds => compM dec test me ds >>= fun r => pure (.lst r)) σ H Q) :
    tLc (tDI K σd E mi) g (fun σ H Q => ∃ p, tDT K (up p (wipeD σd vs)) E0' (test p) σ H Q) (fun σ H Q => ∃ p, tD K (up p (wipeD σd vs)) E0' (me p) σ H Q) vs σ H Q := by
  obtain ⟨W, st, hh, hs, h⟩ := h
  exact ⟨W, st, hh, hs, (After.next hs hh h).mono fun ds W1 H1 st1 _ _ _ ⟨e1, hh1, hs1, h1⟩ hz J hJ => comp_reads hg hix hJ hz hh1 hs1 h1⟩
theorem de_lc {own : List (Str × Nat)} {P : Type} {dec : D → Option P} {up : P → List Sl → List Sl} {test : P → M Bool} {me : P → M D} {g : TG} {ix : List Nat} (hc : X.calm = true) (hN : X.N.Nodup) (hg : GOk X.K g ix dec up) (hix : ∀ i ∈ ix, i ∈ own.map (·.2)) (hi : DI X E σd tg iter mi) (ok : BlkOk X.N X.env.scope scope own)
    (hp : ∀ (s : Shared) (H : Hp) (C : Addr) (cl : List (Str × Addr)) (fp : List Addr), PG (X.blk s H scope (compEnvC scope cl C X.env) fp) tg g)
    (ht : ∀ (s : Shared) (H : Hp) (C : Addr) (cl : List (Str × Addr)) (fp : List Addr) (p : P), DTs (X.blk s H scope (compEnvC scope cl C X.env) fp) E0' (up p (wipeD σd (own.map (·.2)))) ifs (test p))
    (he : ∀ (s : Shared) (H : Hp) (C : Addr) (cl : List (Str × Addr)) (fp : List Addr) (p : P), DE (X.blk s H scope (compEnvC scope cl C X.env) fp) E0' (up p (wipeD σd (own.map (·.2)))) elt (me p))
    (hs : ∀ x, foldedSetIterable iter X.env x = pure x) :
    DE X E σd (.ListComp elt [⟨tg, iter, ifs, 0⟩] scope pos) (mi >>= fun ds => compM dec test me ds >>= fun r => pure (.lst r)) :=
  ⟨pe_imp (pe_lc (own := own) hc hN hi.pi ok hp (fun s H C cl fp => pts_ex fun p => (ht s H C cl fp p).pts) (fun s H C cl fp => pe_ex fun p => (he s H C cl fp p).pe) hs) fun σ H Q h => lc_reads hg hix h⟩
end

/-! ### blocks -/
inductive Fl (N T : Type) where
  | next (s : N) | ret (d : D) | brk (t : T) | cnt (t : T)
def tDB {N T : Type} (K : PySem.W.Frag) (σd : List Sl) (E : XK) (eN : N → List Sl) (eT : T → List Sl) (m : M (Fl N T)) : TS := fun Dn σ H => ∃ (W : Wd) (st : Store), Holds K W H st ∧ Slots K W H σd σ ∧ After K W H E (m st) fun f W' H' st' => match f with
  | .next s => ∀ σ', Slots K W' H' (eN s) σ' → Dn.nx σ' H'
  | .ret d => ∀ v, Rep K W' H' v d → Dn.rt v H'
  | .brk t => ∀ σ', Slots K W' H' (eT t) σ' → Dn.bk σ' H'
  | .cnt t => ∀ σ', Slots K W' H' (eT t) σ' → Dn.ct σ' H'
structure DB {N T : Type} (X : Cx) (E : XK) (σd : List Sl) (ss : List Stmt) (eN : N → List Sl) (eT : T → List Sl) (m : M (Fl N T)) : Prop where
  pss : PSs X ss (tDB X.K σd E eN eT m)
theorem pss_imp {X : Cx} {ss : List Stmt} {t t' : TS} (h : PSs X ss t) (f : ∀ Dn σ H, t' Dn σ H → t Dn σ H) : PSs X ss t' := ⟨fun pins s σ H Dn I q => h.run pins s σ H Dn I (f Dn σ H q)⟩
theorem pss_ex {X : Cx} {ss : List Stmt} {α : Type} {t : α → TS} (h : ∀ a, PSs X ss (t a)) : PSs X ss (fun Dn σ H => ∃ a, t a Dn σ H) := ⟨fun pins s σ H Dn I ⟨a, q⟩ => (h a).run pins s σ H Dn I q⟩
theorem ps_imp {X : Cx} {s : Stmt} {t t' : TS} (h : PS X s t) (f : ∀ Dn σ H, t' Dn σ H → t Dn σ H) : PS X s t' := ⟨fun pins s σ H Dn I q => h.run pins s σ H Dn I (f Dn σ H q)⟩
/-- less is known -/
inductive Wk : List Sl → List Sl → Prop where
  | nil : Wk [] []
  | n {t s : List Sl} {x : Sl} (h : Wk t s) : Wk (.none :: t) (x :: s)
  | k {t s : List Sl} {x : Sl} (h : Wk t s) : Wk (x :: t) (x :: s)
theorem Wk.len {t s : List Sl} (h : Wk t s) : t.length = s.length := by
  induction h with
  | nil => rfl
  | n _ ih => rw [List.length_cons, List.length_cons, ih]
  | k _ ih => rw [List.length_cons, List.length_cons, ih]
theorem Wk.at {t s : List Sl} (h : Wk t s) : ∀ (i : Nat) (x : Sl), t[i]? = some x → x = .none ∨ s[i]? = some x := by
  induction h with
  | nil => intro i x q; simp at q
  | n _ ih =>
    intro i x q
    cases i with
    | zero => simp at q; exact .inl q.symm
    | succ i => simpa using ih i x (by simpa using q)
  | k _ ih =>
    intro i x q
    cases i with
    | zero => simp at q; subst q; exact .inr rfl
    | succ i => simpa using ih i x (by simpa using q)
theorem Wk.refl : ∀ s : List Sl, Wk s s
  | [] => .nil
  | _ :: s => .k (Wk.refl s)
theorem Slots.wk {K : PySem.W.Frag} {W : Wd} {H : Hp} {σd τd : List Sl} {σ : St} (s : Slots K W H σd σ) (h : Wk τd σd) : Slots K W H τd σ := s.weak h.len h.at
section
variable {K : PySem.W.Frag} {X : Cx} {E : XK} {σd : List Sl} {N T : Type} {eN : N → List Sl} {eT : T → List Sl} {ss : List Stmt} {pos : Pos}
abbrev kDB (K : PySem.W.Frag) (eN : N → List Sl) (eT : T → List Sl) (Dn : Ends) : Fl N T → Wd → Hp → Store → Prop := fun f W' H' st' => match f with
  | .next s => ∀ σ', Slots K W' H' (eN s) σ' → Dn.nx σ' H'
  | .ret d => ∀ v, Rep K W' H' v d → Dn.rt v H'
  | .brk t => ∀ σ', Slots K W' H' (eT t) σ' → Dn.bk σ' H'
  | .cnt t => ∀ σ', Slots K W' H' (eT t) σ' → Dn.ct σ' H'
/-- an expression first, the rest behind it -/
theorem After.stmt {α β : Type} {W : Wd} {H : Hp} {st : Store} {σ : St} {m : M α} {f : α → M β} {k : β → Wd → Hp → Store → Prop} (hs : Slots K W H σd σ) (hh : Holds K W H st) (h : After K W H E ((m >>= f) st) k) :
    After K W H E (m st) fun x W' H' st' => Ext W W' H H' ∧ Holds K W' H' st' ∧ Slots K W' H' σd σ ∧ After K W' H' E (f x st') k :=
  After.next hs hh h
theorem db_nil {s : N} (h : Wk (eN s) σd) : DB X E σd [] eN eT (pure (.next s)) :=
  ⟨pss_imp pss_nil fun Dn σ H ⟨W, st, hh, hs, h1⟩ => After.pure' h1 hh σ (hs.wk h)⟩
theorem db_ret {e : Expr} {me : M D} (he : DE X (fun _ => E) σd e me) : DB X E σd (.Return (some e) pos :: ss) eN eT (me >>= fun d => pure (.ret d)) :=
  ⟨pss_imp (pss_cons (ps_ret he.pe) pss_never) fun Dn σ H ⟨W, st, hh, hs, h⟩ =>
    ⟨W, st, hh, hs, (After.stmt hs hh h).mono fun d W1 H1 st1 _ _ _ ⟨e1, hh1, hs1, h1⟩ v r => After.pure' h1 hh1 v r⟩⟩
theorem db_retN : DB X E σd (.Return none pos :: ss) eN eT (pure (.ret .non)) :=
  ⟨pss_imp (pss_cons ps_retN pss_never) fun Dn σ H ⟨W, st, hh, hs, h⟩ => After.pure' h hh .non rfl⟩
theorem db_brk {t : T} (h : Wk (eT t) σd) : DB X E σd (.Break pos :: ss) eN eT (pure (.brk t)) :=
  ⟨pss_imp (pss_cons ps_break pss_never) fun Dn σ H ⟨W, st, hh, hs, h1⟩ => After.pure' h1 hh σ (hs.wk h)⟩
theorem db_cnt {t : T} (h : Wk (eT t) σd) : DB X E σd (.Continue pos :: ss) eN eT (pure (.cnt t)) :=
  ⟨pss_imp (pss_cons ps_continue pss_never) fun Dn σ H ⟨W, st, hh, hs, h1⟩ => After.pure' h1 hh σ (hs.wk h)⟩
theorem db_pass {m : M (Fl N T)} (hr : DB X E σd ss eN eT m) : DB X E σd (.Pass pos :: ss) eN eT m := ⟨pss_imp (pss_cons ps_pass hr.pss) fun Dn σ H h => h⟩
/-- what stands behind is told of less -/
theorem db_wk {τd : List Sl} {m : M (Fl N T)} (h : Wk τd σd) (hr : DB X E τd ss eN eT m) : DB X E σd ss eN eT m :=
  ⟨pss_imp hr.pss fun Dn σ H ⟨W, st, hh, hs, h1⟩ => ⟨W, st, hh, hs.wk h, h1⟩⟩
/-- x = e -/
theorem db_set {e : Expr} {x : Str} {p' : Pos} {me : M D} {mr : D → M (Fl N T)} (i : Nat) (he : DE X (fun _ => E) σd e me) (hN : X.N.Nodup) (hi : X.N[i]? = some x) (hx : Loc X.env.scope x) (hs : swapsWith e (some (.Name x p')) pos.line X.env = pure false) (hf : X.fn x = true ∨ X.env.scope.names.lookup x = some .local)
    (hr : ∀ d, DB X E (σd.set i (.val d)) ss eN eT (mr d)) : DB X E σd (.Assign [.Name x p'] e pos :: ss) eN eT (me >>= mr) :=
  ⟨pss_imp (pss_cons (ps_set (i := i) hN hi hx he.pe hs hf) (pss_ex fun d => (hr d).pss)) fun Dn σ H ⟨W, st, hh, hs, h⟩ =>
    ⟨W, st, hh, hs, (After.stmt hs hh h).mono fun d W1 H1 st1 _ _ _ ⟨e1, hh1, hs1, h1⟩ v r => ⟨d, W1, st1, hh1, hs1.put i r, h1⟩⟩⟩
/-- e -/
theorem db_expr {e : Expr} {me : M D} {mr : M (Fl N T)} (he : DE X (fun _ => E) σd e me) (hs : swapsWith e none pos.line X.env = pure false) (hr : DB X E σd ss eN eT mr) : DB X E σd (.Expr e pos :: ss) eN eT (me >>= fun _ => mr) :=
  ⟨pss_imp (pss_cons (ps_expr he.pe hs) hr.pss) fun Dn σ H ⟨W, st, hh, hs, h⟩ =>
    ⟨W, st, hh, hs, (After.stmt hs hh h).mono fun d W1 H1 st1 _ _ _ ⟨e1, hh1, hs1, h1⟩ v r => ⟨W1, st1, hh1, hs1, h1⟩⟩⟩
/-- if c: a else: b, both ways to one word, then the rest -/
def thenM {N' : Type} (f : Fl N' T) (k : N' → M (Fl N T)) : M (Fl N T) := match f with
  | .next s => k s
  | .ret d => pure (.ret d)
  | .brk t => pure (.brk t)
  | .cnt t => pure (.cnt t)
theorem db_if {N' : Type} {e' : N' → List Sl} {c : Expr} {a b : List Stmt} {mc : M Bool} {ma mb : M (Fl N' T)} {mr : N' → M (Fl N T)} (hc : DT X (fun _ => E) σd c mc) (ha : DB X E σd a e' eT ma) (hb : DB X E σd b e' eT mb)
    (hr : ∀ s, DB X E (e' s) ss eN eT (mr s)) : DB X E σd (.If c a b pos :: ss) eN eT (mc >>= fun t => (if t = true then ma else mb) >>= fun f => thenM f mr) := by
  refine ⟨pss_imp (pss_cons (ps_if hc.pt ha.pss hb.pss) (pss_ex fun s => (hr s).pss)) fun Dn σ H ⟨W, st, hh, hs, h⟩ => ?_⟩
  refine ⟨W, st, hh, hs, (After.stmt hs hh h).mono fun t W1 H1 st1 _ _ _ ⟨e1, hh1, hs1, h1⟩ => ?_⟩
  have key : ∀ mm : M (Fl N' T), After X.K W1 H1 E ((mm >>= fun f => thenM f mr) st1) (kDB X.K eN eT Dn) → After X.K W1 H1 E (mm st1) (kDB X.K e' eT { Dn with nx := fun σ H => ∃ s, tDB X.K (e' s) E eN eT (mr s) Dn σ H }) := by
    intro mm hm
    refine (After.bind hm).mono fun f W2 H2 st2 _ e2 hh2 q => ?_
    cases f with
    | next s => exact fun σ' hs' => ⟨s, W2, st2, hh2, hs', q⟩
    | ret d => exact After.pure' (E := E) (k := kDB X.K eN eT Dn) q hh2
    | brk t => exact After.pure' (E := E) (k := kDB X.K eN eT Dn) q hh2
    | cnt t => exact After.pure' (E := E) (k := kDB X.K eN eT Dn) q hh2
  cases t with
  | true => exact ⟨W1, st1, hh1, hs1, key ma h1⟩
  | false => exact ⟨W1, st1, hh1, hs1, key mb h1⟩
/-- if c: a (that does not go on), then the rest -/
abbrev eE : Empty → List Sl := fun e => e.elim
theorem db_if1 {c : Expr} {a : List Stmt} {mc : M Bool} {ma : M (Fl Empty T)} {mr : M (Fl N T)} (hc : DT X (fun _ => E) σd c mc) (ha : DB X E σd a eE eT ma) (hr : DB X E σd ss eN eT mr) :
    DB X E σd (.If c a [] pos :: ss) eN eT (mc >>= fun t => if t = true then ma >>= fun f => thenM f Empty.elim else mr) := by
  refine ⟨pss_imp (pss_cons (ps_if hc.pt ha.pss pss_nil) hr.pss) fun Dn σ H ⟨W, st, hh, hs, h⟩ => ?_⟩
  refine ⟨W, st, hh, hs, (After.stmt hs hh h).mono fun t W1 H1 st1 _ _ _ ⟨e1, hh1, hs1, h1⟩ => ?_⟩
  cases t with
  | true =>
    refine ⟨W1, st1, hh1, hs1, ?_⟩
    have h1' : After X.K W1 H1 E ((ma >>= fun f => thenM f Empty.elim) st1) (kDB X.K eN eT Dn) := h1
    refine (After.bind h1').mono fun f W2 H2 st2 _ e2 hh2 q => ?_
    cases f with
    | next s => exact s.elim
    | ret d => exact After.pure' (E := E) (k := kDB X.K eN eT Dn) q hh2
    | brk t => exact After.pure' (E := E) (k := kDB X.K eN eT Dn) q hh2
    | cnt t => exact After.pure' (E := E) (k := kDB X.K eN eT Dn) q hh2
  | false => exact ⟨W1, st1, hh1, hs1, h1⟩
/-! ### loops -/
def loopM {P S : Type} (dec : D → Option P) (body : S → P → M (Fl S S)) : List D → S → M (Fl S Empty)
  | [], s => pure (.next s)
  | d :: ds, s => match dec d with
    | none => M.stuck
    | some p => body s p >>= fun f => match f with
      | .next s' => loopM dec body ds s'
      | .cnt s' => loopM dec body ds s'
      | .brk s' => pure (.next s')
      | .ret d => pure (.ret d)
def thenL {S : Type} (f : Fl S Empty) (k : S → M (Fl N T)) : M (Fl N T) := match f with
  | .next s => k s
  | .ret d => pure (.ret d)
  | .brk t => t.elim
  | .cnt t => t.elim
theorem db_for {P S : Type} {dec : D → Option P} {up : P → List Sl → List Sl} {g : TG} {ix : List Nat} {tg iter : Expr} {body : List Stmt} {mi : M (List D)} {es : S → List Sl} {mb : S → P → M (Fl S S)} {mr : S → M (Fl N T)} (s0 : S) (hw : Wk (es s0) σd) (hp : PassesOwn (model X.prog X.w) X.A X.env X.xe) (hc : X.calm = true)
    (hg : GOk X.K g ix dec up) (hi : DI X (fun _ => E) σd tg iter mi) (hpg : PG X tg g) (hf : ∀ x, foldedSetIterable iter X.env x = pure x)
    (hb : ∀ s p, DB X E (up p (es s)) body es es (mb s p)) (hr : ∀ s, DB X E (es s) ss eN eT (mr s)) :
    DB X E σd (.For tg iter body [] pos :: ss) eN eT (mi >>= fun ds => loopM dec mb ds s0 >>= fun f => thenL f mr) := by
  refine ⟨pss_imp (pss_cons (ps_for hp hc hi.pi hpg (pss_ex fun q : S × P => (hb q.1 q.2).pss) hf) (pss_ex fun s => (hr s).pss)) fun Dn σ H ⟨W, st, hh, hs, h⟩ => ?_⟩
  refine ⟨W, st, hh, hs, (After.stmt hs hh h).mono fun ds W1 H1 st1 _ _ _ ⟨e1, hh1, hs1, h1⟩ hz J hJ => ?_⟩
  -- behind i items
  refine ⟨fun i m σ2 H2 => m = ds.length - i ∧ i ≤ ds.length ∧ ∃ (W2 : Wd) (st2 : Store) (s : S), Ext W1 W2 H1 H2 ∧ Holds X.K W2 H2 st2 ∧ Slots X.K W2 H2 (es s) σ2 ∧
    After X.K W2 H2 E ((loopM dec mb (ds.drop i) s >>= fun f => thenL f mr) st2) (kDB X.K eN eT Dn), ?_, ?_⟩
  · refine ⟨ds.length, by omega, Nat.zero_le _, W1, st1, s0, Ext.refl, hh1, hs1.wk hw, ?_⟩
    rw [List.drop_zero]
    exact h1
  · rintro i m σ2 H2 ⟨rfl, hi, W2, st2, s, e2, hh2, hs2, a2⟩
    obtain ⟨js, jg⟩ := hJ W2 H2 st2 e2 hh2
    by_cases hlt : i < ds.length
    · refine .inr ?_
      obtain ⟨go, yld⟩ := jg i ds[i] (List.getElem?_eq_getElem hlt)
      refine ⟨go, fun σ3 H3 => ∃ m', m' < ds.length - i ∧ (m' = ds.length - (i + 1) ∧ i + 1 ≤ ds.length ∧ ∃ (W2 : Wd) (st2 : Store) (s : S), Ext W1 W2 H1 H3 ∧ Holds X.K W2 H3 st2 ∧ Slots X.K W2 H3 (es s) σ3 ∧
        After X.K W2 H3 E ((loopM dec mb (ds.drop (i + 1)) s >>= fun f => thenL f mr) st2) (kDB X.K eN eT Dn)), fun σ3 H3 hn => hn, fun x H3 hy => ?_⟩
      obtain ⟨W3, e3, hh3, rx⟩ := yld x H3 hy
      have e23 : Ext W1 W3 H1 H3 := e2.trans e3
      have a3 := a2.shift e3
      rw [List.drop_eq_getElem_cons hlt] at a3
      unfold loopM at a3
      cases hdec : dec ds[i] with
      | none => rw [hdec] at a3; exact a3.elim
      | some p =>
        rw [hdec] at a3
        refine hg.run W3 H3 st2 _ _ ds[i] x p _ hh3 (hs2.ext e3) rx hdec fun σ4 hs4 _ => ⟨(s, p), W3, st2, hh3, hs4, ?_⟩
        have a4 : After X.K W3 H3 E ((mb s p >>= fun f => (match f with
          | .next s' => loopM dec mb (List.drop (i + 1) ds) s'
          | .cnt s' => loopM dec mb (List.drop (i + 1) ds) s'
          | .brk s' => pure (.next s')
          | .ret d => pure (.ret d)) >>= fun f => thenL f mr) st2) (kDB X.K eN eT Dn) := by
          rw [← M.bind_assoc]
          exact a3
        refine (After.bind a4).mono fun f W5 H5 st5 _ e5 hh5 q => ?_
        have e25 : Ext W1 W5 H1 H5 := e23.trans e5
        cases f with
        | next s' => exact fun σ5 hs5 => ⟨ds.length - (i + 1), by omega, rfl, hlt, W5, st5, s', e25, hh5, hs5, q⟩
        | cnt s' => exact fun σ5 hs5 => ⟨ds.length - (i + 1), by omega, rfl, hlt, W5, st5, s', e25, hh5, hs5, q⟩
        | brk s' => exact fun σ5 hs5 => ⟨s', W5, st5, hh5, hs5, q⟩
        | ret d => exact fun v r => After.pure' (E := E) (k := kDB X.K eN eT Dn) q hh5 v r
    · have e : i = ds.length := by omega
      subst e
      refine .inl ⟨js, ?_⟩
      rw [List.drop_length] at a2
      exact ⟨s, W2, st2, hh2, hs2, a2⟩
end
end DL
/-! DL9: new lists as data or as cells; what is written. -/
namespace DL
open PySem PySem.Spec L2

section
variable {K : PySem.W.Frag} {W W1 W' : Wd} {H H1 H' : Hp} {st st1 : Store} {a p : Addr} {vs : List V} {ds xs : List D} {v : V} {d : D} {E : XK} {Q : VK} {o : HO}
theorem nodup_inj {α : Type} : ∀ {l : List α} {i j : Nat} {a : α}, l.Nodup → l[i]? = some a → l[j]? = some a → i = j
  | [], _, _, _, _, h, _ => by simp at h
  | x :: l, 0, 0, _, _, _, _ => rfl
  | x :: l, 0, j + 1, a, nd, h1, h2 => by
    have e : x = a := by simpa using h1
    subst e
    exact absurd (List.mem_of_getElem? (by simpa using h2)) (List.nodup_cons.mp nd).1
  | x :: l, i + 1, 0, a, nd, h1, h2 => by
    have e : x = a := by simpa using h2
    subst e
    exact absurd (List.mem_of_getElem? (by simpa using h1)) (List.nodup_cons.mp nd).1
  | x :: l, i + 1, j + 1, a, nd, h1, h2 => by
    rw [nodup_inj (List.nodup_cons.mp nd).2 (i := i) (j := j) (a := a) (by simpa using h1) (by simpa using h2)]
/-! ### a list just made -/
structure FinOk (K : PySem.W.Frag) (fin : List D → M D) : Prop where
  run : ∀ {W W1 : Wd} {H H1 : Hp} {st : Store} {p : Addr} {vs : List V} {ds : List D} {E : XK} {Q : VK}, Ext W W1 H H1 → H p = none → Holds K W1 H1 st → W1.U p → p ∉ W1.mu → H1 p = some (.lst vs) → ds.length ≤ 16777216 → Reps K W1 H1 vs ds →
    Fin K W H E (fin ds st) Q → Q (.ref p) H1
  big : ∀ (ds : List D) (st : Store) (a : D) (st' : Store), fin ds st = .ok a st' → ds.length ≤ 16777216
  quiet : ∀ (ds : List D) (st : Store) (x : Ex) (st' : Store), fin ds st ≠ .exc x st'
def fLst (ds : List D) : M D := if ds.length ≤ 16777216 then pure (.lst ds) else M.stuck
def newC (ds : List D) : M D := fun st => if ds.length ≤ 16777216 then .ok (.ref st.length) (st ++ [.lst ds]) else .stuck
theorem fLst_ok : FinOk K fLst := ⟨fun {W W1 H H1 st p vs ds E Q} e hp hh u nm h1 hz r h => by
  unfold fLst at h
  rw [if_pos hz] at h
  have h' : Fin K W H E (.ok (.lst ds) st) Q := h
  exact h' (W1.less p) H1 (e.less hp) (hh.less nm) _ ⟨p, vs, rfl, fun z => z.2 rfl, h1, hz, Reps.mono (W := W1) (W' := W1.less p) rfl (fun _ z => z.1) _ _ r⟩,
  (fun ds st a st' h => by
    unfold fLst at h
    split at h
    · assumption
    · cases h), (fun ds st x st' h => by
    unfold fLst at h
    split at h <;> cases h)⟩
mutual
theorem Rep.grow {t : List Addr} (hm : W'.mu = W.mu ++ t) (hu : ∀ a, W'.U a → W.U a) : ∀ (d : D) (v : V), Rep K W H v d → Rep K W' H v d
  | .non, _, h => h
  | .bl _, _, h => h
  | .int _, _, h => h
  | .str _, _, h => h
  | .lst xs, _, h => by
    obtain ⟨a, vs, rfl, nu, ha, hz, r⟩ := h
    exact ⟨a, vs, rfl, fun z => nu (hu _ z), ha, hz, Reps.grow hm hu xs vs r⟩
  | .tup xs, _, h => by
    obtain ⟨a, vs, rfl, h1, hz, r⟩ := h
    refine ⟨a, vs, rfl, ?_, hz, Reps.grow hm hu xs vs r⟩
    exact h1.imp (fun ⟨nu, ha⟩ => ⟨fun z => nu (hu _ z), ha⟩) id
  | .scr ns, _, h => by
    obtain ⟨a, rfl, h1⟩ := h
    exact ⟨a, rfl, h1.imp (fun ⟨nu, ha⟩ => ⟨fun z => nu (hu _ z), ha⟩) id⟩
  | .fn _, _, h => h
  | .adr _, _, h => h
  | .ref i, _, h => by
    obtain ⟨a, rfl, h⟩ := h
    exact ⟨a, rfl, by rw [hm, List.getElem?_append_left (List.getElem?_eq_some_iff.mp h).1]; exact h⟩
theorem Reps.grow {t : List Addr} (hm : W'.mu = W.mu ++ t) (hu : ∀ a, W'.U a → W.U a) : ∀ (ds : List D) (vs : List V), Reps K W H vs ds → Reps K W' H vs ds
  | [], _, h => h
  | d :: ds, _, h => by
    obtain ⟨v, r, rfl, h1, h2⟩ := h
    exact ⟨v, r, rfl, Rep.grow hm hu d v h1, Reps.grow hm hu ds r h2⟩
end
theorem FsOk.grow {t : List Addr} (hm : W'.mu = W.mu ++ t) (hu : ∀ a, W'.U a → W.U a) : ∀ {fs : List (Str × D)} {vfs : List (Str × V)}, FsOk K W H vfs fs → FsOk K W' H vfs fs
  | [], _, h => h
  | (x, d) :: fs, _, h => by
    obtain ⟨v, r, rfl, h1, h2⟩ := h
    exact ⟨v, r, rfl, h1.grow hm hu, FsOk.grow hm hu h2⟩
/-- a new cell -/
def Wd.cell (W : Wd) (p : Addr) : Wd := ⟨W.mu ++ [p], W.U⟩
theorem Ext.cell (e : Ext W W1 H H1) (hp : H p = none) : Ext W (W1.cell p) H H1 where
  mu := by
    obtain ⟨t, q1, q2⟩ := e.mu
    refine ⟨t ++ [p], by show W1.mu ++ [p] = _; rw [q1, List.append_assoc], fun a ha => ?_⟩
    rcases List.mem_append.mp ha with ha | ha
    · exact q2 a ha
    · rw [List.mem_singleton.mp ha]; exact hp
  u0 := e.u0
  new := e.new
  keep := e.keep
  dom := e.dom
theorem Holds.cell' (hh : Holds K W H st) (hu : W.U p) (nm : p ∉ W.mu) {c : Cell} (hc : CellOk K (W.cell p) H p c) : Holds K (W.cell p) H (st ++ [c]) where
  len := by show (W.mu ++ [p]).length = _; rw [List.length_append, List.length_append, hh.len]; rfl
  nd := List.nodup_append.mpr ⟨hh.nd, List.nodup_cons.mpr ⟨by simp, List.nodup_nil⟩, fun a ha b hb e => by
    rw [List.mem_singleton.mp hb] at e
    exact nm (e ▸ ha)⟩
  dom := hh.dom
  muAt := fun a ha => by
    rcases List.mem_append.mp ha with ha | ha
    · exact hh.muAt a ha
    · rw [List.mem_singleton.mp ha]; exact hh.dom p hu
  cell := fun i c' a h1 h2 => by
    by_cases hi : i < st.length
    · rw [List.getElem?_append_left hi] at h1
      have h2' : (W.mu ++ [p])[i]? = some a := h2
      rw [List.getElem?_append_left (by rw [hh.len]; exact hi)] at h2'
      have c0 := hh.cell i c' a h1 h2'
      cases c' with
      | lst xs => obtain ⟨u1, vs, q1, hz, q2⟩ := c0; exact ⟨u1, vs, q1, hz, Reps.grow (W := W) (W' := W.cell p) (t := [p]) rfl (fun _ z => z) _ _ q2⟩
      | ins C fs => obtain ⟨u1, dx, vfs, q1, q2⟩ := c0; exact ⟨u1, dx, vfs, q1, FsOk.grow (W := W) (W' := W.cell p) (t := [p]) rfl (fun _ z => z) q2⟩
      | dead => trivial
      | tab x q =>
        obtain ⟨u1, e1, ps, h1, h2, h3⟩ := c0
        exact ⟨u1, e1, ps, h1, h2, h3⟩
    · have h2' : (W.mu ++ [p])[i]? = some a := h2
      have hl : i = st.length := by
        have := (List.getElem?_eq_some_iff.mp h1).1
        rw [List.length_append, List.length_singleton] at this
        omega
      subst hl
      rw [List.getElem?_append_right (Nat.le_refl _), Nat.sub_self] at h1
      rw [List.getElem?_append_right (by rw [hh.len]; exact Nat.le_refl _), hh.len, Nat.sub_self] at h2'
      cases h1
      cases h2'
      exact hc
theorem newC_ok : FinOk K newC := ⟨fun {W W1 H H1 st p vs ds E Q} e hp hh u nm h1 hz r h => by
  unfold newC at h
  rw [if_pos hz] at h
  have h' : Fin K W H E (.ok (.ref st.length) (st ++ [.lst ds])) Q := h
  refine h' (W1.cell p) H1 (e.cell hp) (hh.cell' u nm ⟨u, vs, h1, hz, Reps.grow (W := W1) (W' := W1.cell p) (t := [p]) rfl (fun _ z => z) _ _ r⟩) _ ⟨p, rfl, ?_⟩
  show (W1.mu ++ [p])[st.length]? = some p
  rw [List.getElem?_append_right (by rw [hh.len]; exact Nat.le_refl _), hh.len, Nat.sub_self]
  rfl, (fun ds st a st' h => by
    unfold newC at h
    split at h
    · assumption
    · cases h), (fun ds st x st' h => by
    unfold newC at h
    split at h <;> cases h)⟩
theorem FinOk.some {fin : List D → M D} (f : FinOk K fin) (h : Fin K W H E (fin ds st) Q) : ds.length ≤ 16777216 := by
  cases q : fin ds st with
  | ok a st' => exact f.big _ _ _ _ q
  | exc x st' => exact absurd q (f.quiet _ _ _ _)
  | stuck => rw [q] at h; exact h.elim
/-- .. when it is laid just now -/
theorem FinOk.new {fin : List D → M D} (f : FinOk K fin) (hh : Holds K W H st) (hp : H p = none) (hz : ds.length ≤ 16777216) (r : Reps K W H vs ds) (h : Fin K W H E (fin ds st) Q) : Q (.ref p) (upd H p (.lst vs)) :=
  f.run (Ext.with hp) hp (hh.with hp) (.inr rfl) (fun m => hh.muDom p hp m) upd_same hz (r.ext (Ext.with hp)) h
/-! ### a cell is written -/
theorem Ext.wr (hu : W.U a) (hm : a ∈ W.mu) (ha : H a = some o) {o' : HO} : Ext W W H (upd H a o') where
  mu := ⟨[], by simp, by simp⟩
  u0 := fun _ _ z _ _ => z
  new := fun _ z => .inl z
  keep := fun b u hb q => by rw [upd_ne (a := a) (b := b) fun e => by subst e; exact hb hu hm]; exact q
  dom := fun b u q => by
    by_cases e : b = a
    · exact ⟨o', by rw [e]; exact upd_same⟩
    · exact ⟨u, by rw [upd_ne e]; exact q⟩
theorem Holds.wr (hh : Holds K W H st) {i : Nat} (hu : W.U a) (hi : W.mu[i]? = some a) (ha : H a = some o) {o' : HO} {c : Cell} (hc : CellOk K W (upd H a o') a c) : Holds K W (upd H a o') (st.set i c) where
  len := by rw [List.length_set]; exact hh.len
  nd := hh.nd
  dom := fun b h => by
    obtain ⟨u, q⟩ := hh.dom b h
    exact (Ext.wr (o' := o') hu (List.mem_of_getElem? hi) ha).dom b u q
  muAt := fun b h => by
    obtain ⟨u, q⟩ := hh.muAt b h
    exact (Ext.wr (o' := o') hu (List.mem_of_getElem? hi) ha).dom b u q
  cell := fun j c' b h1 h2 => by
    by_cases e : j = i
    · subst e
      rw [hi] at h2
      cases h2
      rw [List.getElem?_set_self (by rw [← hh.len]; exact (List.getElem?_eq_some_iff.mp hi).1)] at h1
      cases h1
      exact hc
    · rw [List.getElem?_set_ne (Ne.symm e)] at h1
      have ne : b ≠ a := fun z => by
        subst z
        exact e (nodup_inj hh.nd h2 hi)
      have c0 := hh.cell j c' b h1 h2
      cases c' with
      | lst xs => obtain ⟨u1, vs, q1, hz, q2⟩ := c0; exact ⟨u1, vs, by rw [upd_ne ne]; exact q1, hz, q2.upd hu⟩
      | ins C fs => obtain ⟨u1, dx, vfs, q1, q2⟩ := c0; exact ⟨u1, dx, vfs, by rw [upd_ne ne]; exact q1, FsOk.upd hu q2⟩
      | dead => trivial
      | tab x q =>
        obtain ⟨u1, e1, ps, h1, h2, h3⟩ := c0
        exact ⟨u1, e1, ps, by rw [upd_ne ne]; exact h1, h2, fun pos cv hc => let ⟨c, q1, q2, q3⟩ := h3 pos cv hc; ⟨c, q1, q2, by rw [upd_ne (a := a) (b := c) fun e => q2 (e ▸ hu)]; exact q3⟩⟩
/-- a cell becomes a datum -/
theorem Ext.frz (hm : a ∈ W.mu) : Ext W (W.less a) H H where
  mu := ⟨[], by simp [Wd.less], by simp⟩
  u0 := fun b _ z nm _ => ⟨z, fun e => nm (e ▸ hm)⟩
  new := fun _ z => .inl z.1
  keep := fun _ _ _ q => q
  dom := fun _ u q => ⟨u, q⟩
theorem Holds.frz (hh : Holds K W H st) {i : Nat} (hi : W.mu[i]? = some a) : Holds K (W.less a) H (st.set i .dead) where
  len := by rw [List.length_set]; exact hh.len
  nd := hh.nd
  dom := fun b h => hh.dom b h.1
  muAt := hh.muAt
  cell := fun j c' b h1 h2 => by
    by_cases e : j = i
    · subst e
      have hi' : W.mu[j]? = some b := h2
      rw [List.getElem?_set_self (by rw [← hh.len]; exact (List.getElem?_eq_some_iff.mp hi).1)] at h1
      cases h1
      trivial
    · rw [List.getElem?_set_ne (Ne.symm e)] at h1
      have ne : b ≠ a := fun z => by
        subst z
        exact e (nodup_inj hh.nd h2 hi)
      have c0 := hh.cell j c' b h1 h2
      cases c' with
      | lst xs => obtain ⟨u1, vs, q1, hz, q2⟩ := c0; exact ⟨⟨u1, ne⟩, vs, q1, hz, Reps.mono (W := W) (W' := W.less a) rfl (fun _ z => z.1) _ _ q2⟩
      | ins C fs => obtain ⟨u1, dx, vfs, q1, q2⟩ := c0; exact ⟨⟨u1, ne⟩, dx, vfs, q1, FsOk.mono (W := W) (W' := W.less a) rfl (fun _ z => z.1) q2⟩
      | dead => trivial
      | tab x q =>
        obtain ⟨u1, e1, ps, h1, h2, h3⟩ := c0
        exact ⟨⟨u1, ne⟩, e1, ps, h1, h2, fun pos cv hc => let ⟨c, q1, q2, q3⟩ := h3 pos cv hc; ⟨c, q1, fun z => q2 z.1, q3⟩⟩
/-- a cell's list read; a cell written -/
def rdC (k : Nat) : M (List D) := fun st => match st[k]? with
  | some (.lst xs) => .ok xs st
  | _ => .stuck
def wrC (k : Nat) (c : Cell) : M Unit := fun st => .ok () (st.set k c)
theorem rdC_ok {k : Nat} (q : st[k]? = some (.lst xs)) : rdC k st = .ok xs st := by
  unfold rdC
  rw [q]
theorem rdC_cases (k : Nat) (st : Store) : (∃ xs, st[k]? = some (.lst xs) ∧ rdC k st = .ok xs st) ∨ rdC k st = .stuck := by
  unfold rdC
  cases e : st[k]? with
  | none => exact .inr rfl
  | some c =>
    cases c with
    | lst xs => exact .inl ⟨xs, rfl, rfl⟩
    | _ => exact .inr rfl
/-- the cell as it is now, for good -/
def frz : D → M D
  | .ref k => rdC k >>= fun xs => wrC k .dead >>= fun _ => pure (.lst xs)
  | d => pure d
theorem frz_run {α : Type} {f : D → M α} {k : α → Wd → Hp → Store → Prop} (hh : Holds K W H st) (r : Rep K W H v d) (h : After K W H E ((frz d >>= f) st) k) : ∃ W' st' d', Ext W W' H H ∧ Holds K W' H st' ∧ Rep K W' H v d' ∧ After K W' H E (f d' st') k := by
  cases d with
  | ref i =>
    have h' : After K W H E (((rdC i >>= fun xs => wrC i .dead >>= fun _ => pure (.lst xs)) >>= f) st) k := h
    rw [M.bind_assoc] at h'
    rcases rdC_cases i st with ⟨xs, q, q2⟩ | q
    · rw [bind_ok q2] at h'
      have h2' : After K W H E (f (.lst xs) (st.set i .dead)) k := h'
      obtain ⟨a, rfl, ha⟩ := r
      obtain ⟨u, vs, h1, hz, h2⟩ := hh.cell i _ a q ha
      exact ⟨W.less a, st.set i .dead, .lst xs, Ext.frz (List.mem_of_getElem? ha), hh.frz ha, ⟨a, vs, rfl, fun z => z.2 rfl, h1, hz, Reps.mono (W := W) (W' := W.less a) rfl (fun _ z => z.1) _ _ h2⟩, h2'.shift (Ext.frz (List.mem_of_getElem? ha))⟩
    · rw [bind_stuck q] at h'
      exact h'.elim
  | _ => exact ⟨W, st, _, Ext.refl, hh, r, h⟩
end
section
variable {X : Cx} {E : St → XK} {σd : List Sl} {a b : Expr} {ma mb : M D} {pos : Pos}
theorem de_frz {e : Expr} (ha : DE X E σd e ma) : DE X E σd e (ma >>= frz) :=
  ⟨pe_imp ha.pe fun σ H Q ⟨W, st, hh, hs, h⟩ => tD_run hh hs h fun d v W1 H1 st1 e1 hh1 hs1 r1 (h1 : Fin X.K W1 H1 (E σ) (frz d st1) Q) => by
    have h1' : After X.K W1 H1 (E σ) ((frz d >>= pure) st1) (fun d W' H' _ => ∀ v, Rep X.K W' H' v d → Q v H') := by rw [M.bind_pure]; exact h1
    obtain ⟨W2, st2, d2, e2, hh2, r2, h2⟩ := frz_run hh1 r1 h1'
    exact After.pure' h2 hh2 v r2⟩
theorem de_lstF {es : List Expr} {m : M (List D)} {fin : List D → M D} (hf : FinOk X.K fin) (h : DA X E σd es m) : DE X E σd (.List es pos) (m >>= fin) :=
  ⟨pe_imp (pe_lst h.pa) fun σ H Q ⟨W, st, hh, hs, h⟩ => ⟨W, st, hh, hs, (After.next hs hh h).mono fun ds W1 H1 st1 _ _ _ ⟨e1, hh1, hs1, h1⟩ vs r1 => by
    have hz := hf.some h1
    exact ⟨by rw [r1.length, sizeLine_eq]; exact hz, fun p hp => hf.new hh1 hp hz r1 h1⟩⟩⟩
/-! ### x[i] = v, x.append(v) -/
def setC : D → D → D → M Unit
  | .ref k, .int i, v => rdC k >>= fun xs => match ixN xs.length i with | some j => wrC k (.lst (xs.set j v)) | none => M.stuck
  | _, _, _ => M.stuck
theorem ps_set_run {K : PySem.W.Frag} {W : Wd} {H : Hp} {st : Store} {o i v : V} {x y d : D} {E : XK} {k : Unit → Wd → Hp → Store → Prop} (hh : Holds K W H st) (ro : Rep K W H o x) (ri : Rep K W H i y) (rv : Rep K W H v d) (h : After K W H E (setC x y d st) k) :
    rSetL o i v H fun H' => ∃ st', Ext W W H H' ∧ Holds K W H' st' ∧ k () W H' st' := by
  cases x with
  | ref n =>
    cases y with
    | int z =>
      have h' : After K W H E ((rdC n >>= fun xs => match ixN xs.length z with | some j => wrC n (.lst (xs.set j d)) | none => M.stuck) st) k := h
      rcases rdC_cases n st with ⟨xs, q, q2⟩ | q
      · rw [bind_ok q2] at h'
        cases q2 : ixN xs.length z with
        | none => rw [q2] at h'; exact h'.elim
        | some j =>
          rw [q2] at h'
          have h2 : After K W H E (.ok () (st.set n (.lst (xs.set j d))) : R Unit) k := h'
          obtain ⟨a, rfl, ha⟩ := ro
          have ri' : i = .int z := ri
          subst ri'
          obtain ⟨u, vs, h1, hz, r⟩ := hh.cell n _ a q ha
          have hw := hh.wr (o' := .lst (vs.set j v)) (c := .lst (xs.set j d)) u ha h1 ⟨u, _, upd_same, by rw [List.length_set]; exact hz, (r.set j rv).upd u⟩
          exact ⟨a, vs, z, j, rfl, rfl, h1, by rw [r.length]; exact q2, _, Ext.wr u (List.mem_of_getElem? ha) h1, hw, h2 W _ (Ext.wr u (List.mem_of_getElem? ha) h1) hw⟩
      · rw [bind_stuck q] at h'
        exact h'.elim
    | _ => exact h.elim
  | _ => cases y <;> exact h.elim
def appC : D → D → M D
  | .ref k, v => rdC k >>= fun xs => if xs.length < 16777216 then wrC k (.lst (xs ++ [v])) >>= fun _ => pure .non else M.stuck
  | _, _ => M.stuck
theorem app_run {K : PySem.W.Frag} {W : Wd} {H : Hp} {st : Store} {o v : V} {x d : D} {E : XK} {Q : VK} (hh : Holds K W H st) (ro : Rep K W H o x) (rv : Rep K W H v d) (h : Fin K W H E (appC x d st) Q) : rAppend o [v] H Q := by
  cases x with
  | ref n =>
    have h' : Fin K W H E ((rdC n >>= fun xs => if xs.length < 16777216 then wrC n (.lst (xs ++ [d])) >>= fun _ => pure .non else M.stuck) st) Q := h
    rcases rdC_cases n st with ⟨xs, q, q2⟩ | q
    · rw [bind_ok q2] at h'
      by_cases hz : xs.length < 16777216
      · rw [if_pos hz] at h'
        have h2 : Fin K W H E (.ok .non (st.set n (.lst (xs ++ [d]))) : R D) Q := h'
        obtain ⟨a, rfl, ha⟩ := ro
        obtain ⟨u, vs, h1, hz', r⟩ := hh.cell n _ a q ha
        have hw := hh.wr (o' := .lst (vs ++ [v])) (c := .lst (xs ++ [d])) u ha h1 ⟨u, _, upd_same, by rw [List.length_append, List.length_singleton]; omega, (r.append (.cons rv .nil)).upd u⟩
        exact ⟨a, vs, v, rfl, rfl, h1, by rw [r.length, sizeLine_eq]; exact hz, h2 W _ (Ext.wr u (List.mem_of_getElem? ha) h1) hw _ rfl⟩
      · rw [if_neg hz] at h'
        exact h'.elim
    · rw [bind_stuck q] at h'
      exact h'.elim
  | _ => exact h.elim
theorem tyV_ref {K : PySem.W.Frag} {W : Wd} {H : Hp} {st : Store} {v : V} {k : Nat} {xs : List D} (hh : Holds K W H st) (r : Rep K W H v (.ref k)) (q : st[k]? = some (.lst xs)) : tyV K "list" v H := by
  obtain ⟨a, rfl, ha⟩ := r
  obtain ⟨u, vs, h1, hz, r⟩ := hh.cell k _ a q ha
  exact .inl ⟨rfl, vs, SqL.of h1⟩
/-- the cell is a list -/
def isC : D → M Unit
  | .ref k => rdC k >>= fun _ => pure ()
  | _ => M.stuck
theorem de_append {o e : Expr} {mo me : M D} {apos cpos : Pos} (ho : DE X E σd o mo) (he : DE X E σd e me) (hs : starEach [e] X.env = [(false, eval e X.env)])
    (hbase : attributeBase o "append" X.env (eval o X.env) = eval o X.env)
    (hfew : ((backTo cpos (starEach [e] X.env)).all (fun x => !x.1) && (backToKw cpos (keywordEach [] X.env)).all (fun x => x.1.isSome)
      && decide (([e] : List Expr).length + ([] : List Keyword).length + (if ([] : List Keyword).isEmpty then 0 else 1) < 30)) = true)
    (hline : (apos.endLine == cpos.line) = true) : DE X E σd (.Call (.Attribute o "append" apos) [e] [] cpos) (mo >>= fun x => isC x >>= fun _ => me >>= fun v => appC x v) :=
  ⟨pe_imp (pe_bm PySem.F.plainAttrs_list PySem.F.slot_list_append PySem.F.type_list_append mt_append ho.pe (pa_cons he.pe pa_nil hs) hbase hfew hline (by rw [hs]; rfl) rfl) fun σ H Q ⟨W, st, hh, hs, h⟩ =>
    tD_run hh hs h fun d v W1 H1 st1 e1 hh1 hs1 r1 h1 => by
      cases d with
      | ref k =>
        have h1' : After X.K W1 H1 (E σ) (((rdC k >>= fun _ => pure ()) >>= fun _ => me >>= fun v => appC (.ref k) v) st1) (fun d W' H' _ => ∀ v, Rep X.K W' H' v d → Q v H') := h1
        rw [M.bind_assoc] at h1'
        rcases rdC_cases k st1 with ⟨xs, q, q2⟩ | q
        · rw [bind_ok q2, M.pure_bind] at h1'
          exact ⟨tyV_ref hh1 r1 q, tD_run hh1 hs1 h1' fun d2 v2 W2 H2 st2 e2 hh2 hs2 r2 h3 => app_run hh2 (r1.ext e2) r2 h3⟩
        · rw [bind_stuck q] at h1'
          exact h1'.elim
      | _ => exact h1.elim⟩
end
section
variable {X : Cx} {E : XK} {σd : List Sl} {N T : Type} {eN : N → List Sl} {eT : T → List Sl} {ss : List Stmt} {pos : Pos}
/-- o[i] = e -/
theorem db_setIx {o i e : Expr} {mo mi me : M D} {mr : M (Fl N T)} {p' : Pos} (he : DE X (fun _ => E) σd e me) (ho : DE X (fun _ => E) σd o mo) (hi : DE X (fun _ => E) σd i mi)
    (hs : swapsWithSole [.Subscript o i p'] e pos.line X.env = pure false) (hw : swappedStores [.Subscript o i p'] e X.env = pure none) (h1 : (assignEach [.Subscript o i p'] X.env).map (·.2) = [assign (.Subscript o i p') X.env])
    (ha : ∀ v, assign (.Subscript o i p') X.env v = (do
      let ov ← holding [v] (eval o X.env)
      let iv ← holding [v, ov] (eval i X.env)
      standAt p'
      holding [v, ov, iv] (setItem ov iv v)
      release [v, ov, iv] []))
    (hr : DB X E σd ss eN eT mr) : DB X E σd (.Assign [.Subscript o i p'] e pos :: ss) eN eT (me >>= fun v => mo >>= fun x => mi >>= fun y => setC x y v >>= fun _ => mr) :=
  ⟨pss_imp (pss_cons (ps_asg he.pe (pg_sub ho.pe hi.pe set_list ha) hs hw h1) hr.pss) fun Dn σ H ⟨W, st, hh, hs, h⟩ =>
    tD_run hh hs h fun d v W1 H1 st1 e1 hh1 hs1 r1 h1 => tD_run hh1 hs1 h1 fun dx vx W2 H2 st2 e2 hh2 hs2 r2 h2 => tD_run hh2 hs2 h2 fun dy vy W3 H3 st3 e3 hh3 hs3 r3 h3 => by
      obtain ⟨p, xs, k, j, q1, q2, q3, q4, st', q6, q7, q8⟩ := ps_set_run hh3 (r2.ext e3) r3 ((r1.ext e2).ext e3) (After.next hs3 hh3 h3)
      exact ⟨p, xs, k, j, q1, q2, q3, q4, W3, st', q8.2.1, q8.2.2.1, q8.2.2.2⟩⟩
/-- a slot's cell becomes a datum, for good -/
theorem db_frz {d : D} {mr : D → M (Fl N T)} (i : Nat) (hi : σd[i]? = some (.val d)) (hr : ∀ d', DB X E (σd.set i (.val d')) ss eN eT (mr d')) : DB X E σd ss eN eT (frz d >>= mr) :=
  ⟨pss_imp (pss_ex fun d => (hr d).pss) fun Dn σ H ⟨W, st, hh, hs, h⟩ => by
    obtain ⟨v, q1, q2⟩ := hs.val i d hi
    obtain ⟨W2, st2, d2, e2, hh2, r2, h2⟩ := frz_run hh q2 h
    refine ⟨d2, W2, st2, hh2, ?_, h2⟩
    have := (hs.ext e2).put i r2
    have e : σ.set i (some v) = σ := by
      apply List.ext_getElem?
      intro j
      by_cases z : j = i
      · subst z
        rw [List.getElem?_set_self (List.getElem?_eq_some_iff.mp q1).1, q1]
      · rw [List.getElem?_set_ne (Ne.symm z)]
    rwa [e] at this⟩
end
/-! ### comprehensions whose list is taken by fin -/
section
variable {K : PySem.W.Frag} {X : Cx} {E : St → XK} {σd : List Sl}
theorem comp_readsF {P : Type} {dec : D → Option P} {up : P → List Sl → List Sl} {test : P → M Bool} {elt : P → M D} {fin : List D → M D} {g : TG} {ix vs : List Nat} (hf : FinOk K fin) (hg : GOk K g ix dec up) (hix : ∀ i ∈ ix, i ∈ vs) {ds : List D} {J : It} {W : Wd} {H : Hp} {st : Store} {σ : St} {Q : VK} {EE : XK}
    (hJ : Walks K J ds W H) (hz : ds.length ≤ 16777216) (hh : Holds K W H st) (hs : Slots K W H σd σ) (h : Fin K W H EE ((compM dec test elt ds >>= fin) st) Q) :
    ∀ Dl, H Dl = none → ∃ Wm : Nat → Nat → Hp → Prop, (∃ m, Wm 0 m (upd H Dl (.lst []))) ∧ ∀ i m H, Wm i m H →
      (J.stop i H ∧ Q (.ref Dl) H) ∨ (J.go i H ∧ ∃ Nx : Hp → Prop, (∀ H', Nx H' → ∃ m', m' < m ∧ Wm (i + 1) m' H') ∧ ∀ x H', J.yld i H x H' → g x (L2.wipe σ vs) H' fun σ2 H2 => L2.wipe σ2 vs = L2.wipe σ vs ∧
        (∃ p, tDT K (up p (wipeD σd vs)) E0' (test p) σ2 H2 fun b H3 =>
          if b = true then (∃ p, tD K (up p (wipeD σd vs)) E0' (elt p) σ2 H3 fun y H4 => ∃ acc, H4 Dl = some (.lst acc) ∧ acc.length < sizeLine ∧ Nx (upd H4 Dl (.lst (acc ++ [y])))) else Nx H3)) := by
  intro Dl hDl
  have nDl : ¬ W.U Dl := hh.fresh hDl
  -- the invariant: behind i items the list holds acc, the rest is to come
  refine ⟨fun i m H1 => m = ds.length - i ∧ i ≤ ds.length ∧ ∃ (W1 : Wd) (st1 : Store) (acc : List D) (ws : List V), Ext W W1 H H1 ∧ Holds K W1 H1 st1 ∧ W1.U Dl ∧ Dl ∉ W1.mu ∧ H1 Dl = some (.lst ws) ∧ Reps K W1 H1 ws acc ∧ acc.length ≤ i ∧
      Fin K W H EE ((compM dec test elt (ds.drop i) >>= fun r => fin (acc ++ r)) st1) Q, ?_, ?_⟩
  · refine ⟨ds.length, by omega, Nat.zero_le _, W.with Dl, st, [], [], Ext.with hDl, hh.with hDl, .inr rfl, hh.muDom Dl hDl, upd_same, Reps.nil, Nat.le_refl _, ?_⟩
    rw [List.drop_zero]
    exact h
  · rintro i m H1 ⟨rfl, hi, W1, st1, acc, ws, e1, hh1, u1, m1, d1, r1, l1, a1⟩
    obtain ⟨js, jg⟩ := hJ W1 H1 st1 e1 hh1
    have s1 := hs.ext e1
    by_cases hlt : i < ds.length
    · refine .inr ?_
      have hd : ds[i]? = some ds[i] := List.getElem?_eq_getElem hlt
      obtain ⟨go, yld⟩ := jg i ds[i] hd
      refine ⟨go, fun H' => ∃ m', m' < ds.length - i ∧ (m' = ds.length - (i + 1) ∧ i + 1 ≤ ds.length ∧ ∃ (W1 : Wd) (st1 : Store) (acc : List D) (ws : List V), Ext W W1 H H' ∧ Holds K W1 H' st1 ∧ W1.U Dl ∧ Dl ∉ W1.mu ∧ H' Dl = some (.lst ws) ∧ Reps K W1 H' ws acc ∧ acc.length ≤ i + 1 ∧
        Fin K W H EE ((compM dec test elt (ds.drop (i + 1)) >>= fun r => fin (acc ++ r)) st1) Q), fun H' hn => hn, fun x H2 hy => ?_⟩
      obtain ⟨W2, e2, hh2, rx⟩ := yld x H2 hy
      have e02 : Ext W W2 H H2 := e1.trans e2
      rw [List.drop_eq_getElem_cons hlt] at a1
      unfold compM at a1
      cases hdec : dec ds[i] with
      | none => rw [hdec] at a1; exact a1.elim
      | some p =>
        rw [hdec] at a1
        have s2 := s1.ext e2
        have a2 : Fin K W H EE ((nox (test p) >>= fun b => (if b = true then nox (elt p) >>= fun y => compM dec test elt (List.drop (i + 1) ds) >>= fun r => pure (y :: r) else compM dec test elt (List.drop (i + 1) ds)) >>= fun r => fin (acc ++ r)) st1) Q := by
          rw [← M.bind_assoc]
          exact a1
        refine hg.run W2 H2 st1 _ _ ds[i] x p _ hh2 (s2.wipe vs) rx hdec fun σ2 hs2 hw => ⟨by rw [hw vs hix, wipe_wipe], p, W2, st1, hh2, hs2, ?_⟩
        have b2 := (After.bind a2).shift e02
        refine (b2.nox (E0' σ2)).mono fun b W3 H3 st3 qt e3 hh3 q3 => ?_
        have e03 : Ext W W3 H H3 := e02.trans e3
        have keepD : ∀ {Wa Wb : Wd} {Ha Hb : Hp} {o : HO}, Dl ∉ Wa.mu → Wa.U Dl → Ha Dl = some o → Ext Wa Wb Ha Hb → Dl ∉ Wb.mu ∧ Wb.U Dl ∧ Hb Dl = some o := fun hm hu hd e => by
          refine ⟨fun z => ?_, e.u0 _ _ hu hm hd, e.keep _ _ (fun _ => hm) hd⟩
          rcases e.memMu z with z | z
          · exact hm z
          · rw [hd] at z; cases z
        obtain ⟨m2, u2, d2⟩ := keepD m1 u1 d1 e2
        obtain ⟨m3, u3, d3⟩ := keepD m2 u2 d2 e3
        have back : ∀ {α β : Type} {mm : M α} {ff : α → M β} {k : β → Wd → Hp → Store → Prop} {a : α} {st2 st3 : Store}, mm st2 = .ok a st3 → After K W H EE ((nox mm >>= ff) st2) k → After K W H EE (ff a st3) k := fun {α β mm ff k a st2 st3} q z => by
          have q' : nox mm st2 = .ok a st3 := by unfold nox; rw [q]
          rw [bind_ok q'] at z; exact z
        have a3 := back qt a2
        cases b with
        | true =>
          show ∃ p, tD K (up p (wipeD σd vs)) E0' (elt p) σ2 H3 _
          refine ⟨p, W3, st3, hh3, hs2.ext e3, ?_⟩
          have a4 : Fin K W H EE ((nox (elt p) >>= fun y => compM dec test elt (List.drop (i + 1) ds) >>= fun r => fin ((acc ++ [y]) ++ r)) st3) Q := by
            have e : (nox (elt p) >>= fun y => compM dec test elt (List.drop (i + 1) ds) >>= fun r => fin ((acc ++ [y]) ++ r)) = ((nox (elt p) >>= fun y => compM dec test elt (List.drop (i + 1) ds) >>= fun r => pure (y :: r)) >>= fun r => fin (acc ++ r)) := by
              simp only [M.bind_assoc, M.pure_bind, List.append_assoc, List.singleton_append]
            rw [e]
            exact a3
          refine (((After.bind a4).shift e03).nox (E0' σ2)).mono fun y W4 H4 st4 qy e4 hh4 _ v rv => ?_
          have a5 := back qy a4
          have e04 : Ext W W4 H H4 := e03.trans e4
          obtain ⟨m4, u4, d4⟩ := keepD m3 u3 d3 e4
          have r4 : Reps K W4 H4 ws acc := ((r1.ext e2).ext e3).ext e4
          have hl : ws.length < sizeLine := by rw [r4.length, sizeLine_eq]; omega
          refine ⟨ws, d4, hl, ds.length - (i + 1), by omega, rfl, hlt, W4, st4, acc ++ [y], ws ++ [v], ?_⟩
          have e45 : Ext W W4 H (upd H4 Dl (.lst (ws ++ [v]))) := e04.mine hDl
          exact ⟨e45, hh4.mine u4 m4, u4, m4, upd_same, (r4.append (.cons rv .nil)).upd u4, by rw [List.length_append, List.length_singleton]; omega, a5⟩
        | false =>
          show ∃ m', _
          exact ⟨ds.length - (i + 1), by omega, rfl, hlt, W3, st3, acc, ws, e03, hh3, u3, m3, d3, (r1.ext e2).ext e3, by omega, a3⟩
    · have e : i = ds.length := by omega
      subst e
      refine .inl ⟨js, ?_⟩
      rw [List.drop_length] at a1
      have a2 : Fin K W H EE (fin (acc ++ []) st1) Q := a1
      rw [List.append_nil] at a2
      exact hf.run e1 hDl hh1 u1 m1 d1 (Nat.le_trans l1 hz) r1 a2
end
section
variable {X : Cx} {E : St → XK} {σd : List Sl} {tg iter elt : Expr} {ifs : List Expr} {scope : Scope} {pos spos py : Pos} {mi : M (List D)} {own : List (Str × Nat)} {P : Type} {dec : D → Option P} {up : P → List Sl → List Sl} {test : P → M Bool} {me : P → M D} {fin : List D → M D} {g : TG} {ix : List Nat}
theorem lc_readsF {K : PySem.W.Frag} {vs : List Nat} (hf : FinOk K fin) (hg : GOk K g ix dec up) (hix : ∀ i ∈ ix, i ∈ vs) {σ : St} {H : Hp} {Q : VK}
    (h : tD K σd E (mi >>= fun ds => compM dec test me ds >>= fin) σ H Q) :
    tLc (tDI K σd E mi) g (fun σ H Q => ∃ p, tDT K (up p (wipeD σd vs)) E0' (test p) σ H Q) (fun σ H Q => ∃ p, tD K (up p (wipeD σd vs)) E0' (me p) σ H Q) vs σ H Q := by
  obtain ⟨W, st, hh, hs, h⟩ := h
  exact ⟨W, st, hh, hs, (After.next hs hh h).mono fun ds W1 H1 st1 _ _ _ ⟨e1, hh1, hs1, h1⟩ hz J hJ => comp_readsF hf hg hix hJ hz hh1 hs1 h1⟩
theorem de_lcF (hf : FinOk X.K fin) (hc : X.calm = true) (hN : X.N.Nodup) (hg : GOk X.K g ix dec up) (hix : ∀ i ∈ ix, i ∈ own.map (·.2)) (hi : DI X E σd tg iter mi) (ok : BlkOk X.N X.env.scope scope own)
    (hp : ∀ (s : Shared) (H : Hp) (C : Addr) (cl : List (Str × Addr)) (fp : List Addr), PG (X.blk s H scope (compEnvC scope cl C X.env) fp) tg g)
    (ht : ∀ (s : Shared) (H : Hp) (C : Addr) (cl : List (Str × Addr)) (fp : List Addr) (p : P), DTs (X.blk s H scope (compEnvC scope cl C X.env) fp) E0' (up p (wipeD σd (own.map (·.2)))) ifs (test p))
    (he : ∀ (s : Shared) (H : Hp) (C : Addr) (cl : List (Str × Addr)) (fp : List Addr) (p : P), DE (X.blk s H scope (compEnvC scope cl C X.env) fp) E0' (up p (wipeD σd (own.map (·.2)))) elt (me p))
    (hs : ∀ x, foldedSetIterable iter X.env x = pure x) :
    DE X E σd (.ListComp elt [⟨tg, iter, ifs, 0⟩] scope pos) (mi >>= fun ds => compM dec test me ds >>= fin) :=
  ⟨pe_imp (pe_lc (own := own) hc hN hi.pi ok hp (fun s H C cl fp => pts_ex fun p => (ht s H C cl fp p).pts) (fun s H C cl fp => pe_ex fun p => (he s H C cl fp p).pe) hs) fun σ H Q h => lc_readsF hf hg hix h⟩
/-- x = [..] on one line -/
theorem db_setLc {EK : XK} {Nn T : Type} {eN : Nn → List Sl} {eT : T → List Sl} {ss : List Stmt} {mr : D → M (Fl Nn T)} {y : Str} (i : Nat) (hf : FinOk X.K fin) (hc : X.calm = true) (hN : X.N.Nodup) (hy : X.N[i]? = some y) (hyl : X.env.scope.names.lookup y = some .local)
    (hsw : swapsWith (.ListComp elt [⟨tg, iter, ifs, 0⟩] scope pos) (some (.Name y py)) spos.line X.env = pure true) (hg : GOk X.K g ix dec up) (hix : ∀ i ∈ ix, i ∈ own.map (·.2)) (hi : DI X (fun _ => EK) σd tg iter mi) (ok : BlkOk X.N X.env.scope scope own)
    (hp : ∀ (s : Shared) (H : Hp) (C : Addr) (cl : List (Str × Addr)) (fp : List Addr), PG (X.blk s H scope (compEnvC scope cl C X.env) fp) tg g)
    (ht : ∀ (s : Shared) (H : Hp) (C : Addr) (cl : List (Str × Addr)) (fp : List Addr) (p : P), DTs (X.blk s H scope (compEnvC scope cl C X.env) fp) E0' (up p (wipeD σd (own.map (·.2)))) ifs (test p))
    (he : ∀ (s : Shared) (H : Hp) (C : Addr) (cl : List (Str × Addr)) (fp : List Addr) (p : P), DE (X.blk s H scope (compEnvC scope cl C X.env) fp) E0' (up p (wipeD σd (own.map (·.2)))) elt (me p))
    (hs : ∀ x, foldedSetIterable iter X.env x = pure x) (hr : ∀ d, DB X EK (σd.set i (.val d)) ss eN eT (mr d)) :
    DB X EK σd (.Assign [.Name y py] (.ListComp elt [⟨tg, iter, ifs, 0⟩] scope pos) spos :: ss) eN eT ((mi >>= fun ds => compM dec test me ds >>= fin) >>= mr) :=
  ⟨pss_imp (pss_cons (ps_setLc (i := i) (own := own) hc hN hy hyl hsw hi.pi ok hp (fun s H C cl fp => pts_ex fun p => (ht s H C cl fp p).pts) (fun s H C cl fp => pe_ex fun p => (he s H C cl fp p).pe) hs) (pss_ex fun d => (hr d).pss)) fun Dn σ H ⟨W, st, hh, hs, h⟩ =>
    lc_readsF (E := fun _ => EK) (Q := fun x H1 => gName i x σ H1 fun σ H => ∃ a, tDB X.K (σd.set i (Sl.val a)) EK eN eT (mr a) Dn σ H) hf hg hix ⟨W, st, hh, hs, (After.stmt hs hh h).mono fun d W1 H1 st1 _ _ _ ⟨e1, hh1, hs1, h1⟩ v r => ⟨d, W1, st1, hh1, hs1.put i r, h1⟩⟩⟩
/-! ### a < b < c -/
def chM (f g : D → D → M D) (ma mb mc : M D) : M D := ma >>= fun x => mb >>= fun y => f x y >>= asB >>= fun b => if b = true then mc >>= fun z => g y z else pure (.bl false)
theorem chain_reads {K : PySem.W.Frag} {r r' : R2} {f f' : D → D → M D} {ma mb mc : M D} (hf : RD K r f) (hf' : RD K r' f') {σ : St} {H : Hp} {Q : VK} (h : tD K σd E (chM f f' ma mb mc) σ H Q) : tChain r r' (tD K σd E ma) (tD K σd E mb) (tD K σd E mc) σ H Q := by
  obtain ⟨W, st, hh, hs, h⟩ := h
  refine tD_run hh hs h fun d v W1 H1 st1 e1 hh1 hs1 r1 h1 => tD_run hh1 hs1 h1 fun d2 v2 W2 H2 st2 e2 hh2 hs2 r2 h2 => ?_
  have h2' : Fin K W2 H2 (E σ) ((f d d2 >>= fun z => asB z >>= fun b => if b = true then mc >>= fun z => f' d2 z else pure (.bl false)) st2) Q := by
    rw [← M.bind_assoc]
    exact h2
  refine hf W2 H2 st2 v v2 d d2 _ (E σ) hh2 (r1.ext e2) r2 ((After.next hs2 hh2 h2').mono fun d3 W3 H3 st3 _ _ _ ⟨e3, hh3, hs3, h3⟩ v3 r3 => ?_)
  obtain ⟨k, e, h4⟩ := asB_run r3 h3
  refine ⟨k, e, ?_⟩
  cases k with
  | true => exact tD_run hh3 hs3 h4 fun d4 v4 W4 H4 st4 e4 hh4 hs4 r4 h5 => hf' W4 H4 st4 v2 v4 d2 d4 Q (E σ) hh4 ((r2.ext e3).ext e4) r4 h5
  | false => exact After.pure' h4 hh3 _ rfl
theorem de_chain {op op' : CmpOp} {r r' : R2} {f f' : D → D → M D} {a b c : Expr} {ma mb mc : M D} (ho : OpR X (compareOp op) r) (ho' : OpR X (compareOp op') r') (hf : RD X.K r f) (hf' : RD X.K r' f') (ha : DE X E σd a ma) (hb : DE X E σd b mb) (hc : DE X E σd c mc)
    (hm : lastMarks [op, op'] [b, c] = false) : DE X E σd (.Compare a [op, op'] [b, c] pos) (chM f f' ma mb mc) :=
  ⟨pe_imp (pe_chain ho ho' ha.pe hb.pe hc.pe hm) fun σ H Q h => chain_reads hf hf' h⟩
theorem dt_chain {op op' : CmpOp} {r r' : R2} {f f' : D → D → M D} {a b c : Expr} {ma mb mc : M D} (ho : OpR X (compareOp op) r) (ho' : OpR X (compareOp op') r') (hf : RD X.K r f) (hf' : RD X.K r' f') (ha : DE X E σd a ma) (hb : DE X E σd b mb) (hc : DE X E σd c mc)
    (hm : lastMarks [op, op'] [b, c] = false) : DT X E σd (.Compare a [op, op'] [b, c] pos) (chM f f' ma mb mc >>= asB) :=
  ⟨pt_imp (pt_chain ho ho' ha.pe hb.pe hc.pe hm) fun σ H Q ⟨W, st, hh, hs, h⟩ => chain_reads (E := E) hf hf' (tD_run hh hs h fun d v W1 H1 st1 e1 hh1 hs1 r1 h1 => asB_end hh1 r1 h1)⟩
end
end DL
/-! DL10: built-ins. -/
namespace DL
open PySem PySem.Spec L2

section
variable {K : PySem.W.Frag} {W W' : Wd} {H H' : Hp} {st : Store} {v : V} {d : D} {E : XK} {Q : VK} {ds : List D}
/-- a list, a tuple, a cell as it is now -/
def asL : D → M (List D)
  | .lst xs => pure xs
  | .tup xs => pure xs
  | .ref k => rdC k
  | _ => M.stuck
theorem asL_run {α : Type} {f : List D → M α} {k : α → Wd → Hp → Store → Prop} (hh : Holds K W H st) (r : Rep K W H v d) (h : After K W H E ((asL d >>= f) st) k) :
    ∃ a vs xs, v = .ref a ∧ (SqL K H a vs ∨ SqT K H a vs) ∧ xs.length ≤ 16777216 ∧ Reps K W H vs xs ∧ After K W H E (f xs st) k := by
  cases d with
  | lst xs =>
    obtain ⟨a, vs, rfl, nu, ha, hz, r⟩ := r
    exact ⟨a, vs, xs, rfl, .inl (SqL.of ha), hz, r, h⟩
  | tup xs =>
    obtain ⟨a, vs, rfl, ha, r'⟩ := Rep.tupSq r
    exact ⟨a, vs, xs, rfl, .inr ha, Rep.tupLen r, r', h⟩
  | ref n =>
    have h' : After K W H E ((rdC n >>= f) st) k := h
    rcases rdC_cases n st with ⟨xs, q, q2⟩ | q
    · rw [bind_ok q2] at h'
      obtain ⟨a, rfl, ha⟩ := r
      obtain ⟨u, vs, h1, hz, r'⟩ := hh.cell n _ a q ha
      exact ⟨a, vs, xs, rfl, .inl (SqL.of h1), hz, r', h'⟩
    · rw [bind_stuck q] at h'
      exact h'.elim
  | _ => exact h.elim
/-- .. of a list or a cell alone -/
def asLL : D → M (List D)
  | .lst xs => pure xs
  | .ref k => rdC k
  | _ => M.stuck
theorem asLL_run {α : Type} {f : List D → M α} {k : α → Wd → Hp → Store → Prop} (hh : Holds K W H st) (r : Rep K W H v d) (h : After K W H E ((asLL d >>= f) st) k) :
    ∃ a vs xs, v = .ref a ∧ SqL K H a vs ∧ xs.length ≤ 16777216 ∧ Reps K W H vs xs ∧ After K W H E (f xs st) k := by
  cases d with
  | lst xs =>
    obtain ⟨a, vs, rfl, nu, ha, hz, r⟩ := r
    exact ⟨a, vs, xs, rfl, SqL.of ha, hz, r, h⟩
  | ref n =>
    have h' : After K W H E ((rdC n >>= f) st) k := h
    rcases rdC_cases n st with ⟨xs, q, q2⟩ | q
    · rw [bind_ok q2] at h'
      obtain ⟨a, rfl, ha⟩ := r
      obtain ⟨u, vs, h1, hz, r'⟩ := hh.cell n _ a q ha
      exact ⟨a, vs, xs, rfl, SqL.of h1, hz, r', h'⟩
    · rw [bind_stuck q] at h'
      exact h'.elim
  | _ => exact h.elim
/-! ### len, list, tuple -/
def dLen : D → M D
  | .str cs => pure (.int cs.length)
  | .scr ns => pure (.int ns.length)
  | d => asL d >>= fun xs => pure (.int xs.length)
def rLen (K : PySem.W.Frag) : List V → Hp → VK → Prop := fun xs H Q => (∃ p ys, xs = [.ref p] ∧ (SqL K H p ys ∨ SqT K H p ys) ∧ Q (.int ys.length) H) ∨ ∃ z, xs = [.str z] ∧ z.length ≤ sizeLine ∧ Q (.int z.length) H
theorem cr_lenA {X : Cx} : CallR X (.builtin "len") (rLen X.K) := CallR.or call_len_seq call_len_str
theorem rc_len : RC1 K (rLen K) dLen := by
  intro W H st x dx Q E hh rx h
  have key : ∀ d, Rep K W H x d → Fin K W H E ((asL d >>= fun xs => pure (.int xs.length)) st) Q → rLen K [x] H Q := fun d r h => by
    obtain ⟨a, vs, xs, rfl, hq, hz, r', h'⟩ := asL_run hh r h
    exact .inl ⟨a, vs, rfl, hq, After.pure' h' hh _ (by rw [r'.length]; rfl)⟩
  cases dx with
  | str cs => exact .inr ⟨mkS cs, by rw [rx.1], by rw [mkS_len]; exact szLine (sOk_iff.mp rx.2).1, After.pure' h hh _ (by rw [mkS_len]; rfl)⟩
  | scr ns =>
    obtain ⟨a, rfl, ha⟩ := Rep.scrSq rx
    exact .inl ⟨a, _, rfl, .inl ha, After.pure' h hh _ (by rw [List.length_map]; rfl)⟩
  | lst xs => exact key (.lst xs) rx h
  | tup xs => exact key (.tup xs) rx h
  | ref k => exact key (.ref k) rx h
  | _ => exact h.elim
def dList (fin : List D → M D) (d : D) : M D := asL d >>= fin
theorem rc_list {fin : List D → M D} (hf : FinOk K fin) : RC1 K (fun xs H Q => ∃ p ys, xs = [.ref p] ∧ (SqL K H p ys ∨ SqT K H p ys) ∧ ∀ l, H l = none → Q (.ref l) (upd H l (.lst ys))) (dList fin) := by
  intro W H st x dx Q E hh rx h
  obtain ⟨a, vs, xs, rfl, hq, hz, r', h'⟩ := asL_run hh rx h
  exact ⟨a, vs, rfl, hq, fun l hl => hf.new hh hl hz r' h'⟩
def dTuple : D → M D
  | .tup xs => pure (.tup xs)
  | d => asLL d >>= fun xs => pure (.tup xs)
theorem rc_tuple : RC1 K (fun xs H Q => ∃ p ys, xs = [.ref p] ∧ ((SqL K H p ys ∧ ∀ l, H l = none → Q (.ref l) (upd H l (.tup ys))) ∨ (SqT K H p ys ∧ Q (.ref p) H))) dTuple := by
  intro W H st x dx Q E hh rx h
  have key : ∀ d, Rep K W H x d → Fin K W H E ((asLL d >>= fun xs => pure (.tup xs)) st) Q → ∃ p ys, [x] = [V.ref p] ∧ ((SqL K H p ys ∧ ∀ l, H l = none → Q (.ref l) (upd H l (.tup ys))) ∨ (SqT K H p ys ∧ Q (.ref p) H)) := fun d r h => by
    obtain ⟨a, vs, xs, rfl, hq, hz, r', h'⟩ := asLL_run hh r h
    exact ⟨a, vs, rfl, .inl ⟨hq, fun l hl => Fin.newT h' hh hl r' hz⟩⟩
  cases dx with
  | tup xs =>
    obtain ⟨a, vs, rfl, ha, r'⟩ := Rep.tupSq rx
    exact ⟨a, vs, rfl, .inr ⟨ha, After.pure' h hh _ rx⟩⟩
  | lst xs => exact key (.lst xs) rx h
  | ref k => exact key (.ref k) rx h
  | _ => exact h.elim
/-! ### all, any, sum -/
def blsOf : List D → Option (List Bool)
  | [] => some []
  | .bl b :: r => (blsOf r).map (b :: ·)
  | _ :: _ => none
def intsOf : List D → Option (List Int)
  | [] => some []
  | .int b :: r => (intsOf r).map (b :: ·)
  | _ :: _ => none
def strsOf : List D → Option (List (List Nat))
  | [] => some []
  | .str b :: r => (strsOf r).map (b :: ·)
  | _ :: _ => none
theorem blsOf_eq : ∀ {ds : List D} {bs : List Bool}, blsOf ds = some bs → ds = bs.map D.bl
  | [], _, h => by cases h; rfl
  | d :: r, bs, h => by
    cases d with
    | bl b =>
      have h' : (blsOf r).map (b :: ·) = some bs := h
      cases q : blsOf r with
      | none => rw [q] at h'; cases h'
      | some cs => rw [q] at h'; cases h'; rw [blsOf_eq q]; rfl
    | _ => cases h
theorem intsOf_eq : ∀ {ds : List D} {bs : List Int}, intsOf ds = some bs → ds = bs.map D.int
  | [], _, h => by cases h; rfl
  | d :: r, bs, h => by
    cases d with
    | int b =>
      have h' : (intsOf r).map (b :: ·) = some bs := h
      cases q : intsOf r with
      | none => rw [q] at h'; cases h'
      | some cs => rw [q] at h'; cases h'; rw [intsOf_eq q]; rfl
    | _ => cases h
theorem strsOf_eq : ∀ {ds : List D} {bs : List (List Nat)}, strsOf ds = some bs → ds = bs.map D.str
  | [], _, h => by cases h; rfl
  | d :: r, bs, h => by
    cases d with
    | str b =>
      have h' : (strsOf r).map (b :: ·) = some bs := h
      cases q : strsOf r with
      | none => rw [q] at h'; cases h'
      | some cs => rw [q] at h'; cases h'; rw [strsOf_eq q]; rfl
    | _ => cases h
@[simp] theorem blsOf_map (bs : List Bool) : blsOf (bs.map D.bl) = some bs := by
  induction bs with
  | nil => rfl
  | cons b bs ih => show (blsOf (bs.map D.bl)).map (b :: ·) = _; rw [ih]; rfl
@[simp] theorem intsOf_map (bs : List Int) : intsOf (bs.map D.int) = some bs := by
  induction bs with
  | nil => rfl
  | cons b bs ih => show (intsOf (bs.map D.int)).map (b :: ·) = _; rw [ih]; rfl
@[simp] theorem strsOf_map (bs : List (List Nat)) : strsOf (bs.map D.str) = some bs := by
  induction bs with
  | nil => rfl
  | cons b bs ih => show (strsOf (bs.map D.str)).map (b :: ·) = _; rw [ih]; rfl
def ofO {α : Type} : Option α → M α
  | some a => pure a
  | none => M.stuck
@[simp] theorem ofO_some {α : Type} (a : α) : ofO (some a) = (pure a : M α) := rfl
@[simp] theorem ofO_none {α : Type} : ofO (none : Option α) = M.stuck := rfl
theorem ofO_run {α β : Type} {o : Option α} {f : α → M β} {k : β → Wd → Hp → Store → Prop} (h : After K W H E ((ofO o >>= f) st) k) : ∃ a, o = some a ∧ After K W H E (f a st) k := by
  cases o with
  | some a => exact ⟨a, rfl, h⟩
  | none => exact h.elim
def dAll (d : D) : M D := asLL d >>= fun xs => ofO (blsOf xs) >>= fun bs => pure (.bl (bs.all id))
def dAny (d : D) : M D := asLL d >>= fun xs => ofO (blsOf xs) >>= fun bs => pure (.bl (bs.any id))
def dSum (d : D) : M D := asLL d >>= fun xs => ofO (intsOf xs) >>= fun bs => pure (.int bs.sum)
theorem rc_all : RC1 K (rAll K) dAll := by
  intro W H st x dx Q E hh rx h
  obtain ⟨a, vs, xs, rfl, hq, hz, r', h'⟩ := asLL_run hh rx h
  obtain ⟨bs, e, h''⟩ := ofO_run h'
  rw [blsOf_eq e] at r'
  rw [r'.bls] at hq
  exact ⟨a, bs, rfl, hq, After.pure' h'' hh _ rfl⟩
theorem rc_any : RC1 K (rAny K) dAny := by
  intro W H st x dx Q E hh rx h
  obtain ⟨a, vs, xs, rfl, hq, hz, r', h'⟩ := asLL_run hh rx h
  obtain ⟨bs, e, h''⟩ := ofO_run h'
  rw [blsOf_eq e] at r'
  rw [r'.bls] at hq
  exact ⟨a, bs, rfl, hq, After.pure' h'' hh _ rfl⟩
theorem rc_sum : RC1 K (rSum K) dSum := by
  intro W H st x dx Q E hh rx h
  obtain ⟨a, vs, xs, rfl, hq, hz, r', h'⟩ := asLL_run hh rx h
  obtain ⟨bs, e, h''⟩ := ofO_run h'
  rw [intsOf_eq e] at r'
  rw [r'.ints] at hq
  exact ⟨a, bs, rfl, hq, After.pure' h'' hh _ rfl⟩
/-! ### abs, int, str -/
def dAbs : D → M D
  | .int i => pure (.int (if i < 0 then -i else i))
  | _ => M.stuck
theorem rc_abs : RC1 K (fun xs H Q => ∃ i, xs = [.int i] ∧ Q (.int (if i < 0 then -i else i)) H) dAbs := by
  intro W H st x dx Q E hh rx h
  cases dx with
  | int i => have e : x = .int i := rx; subst e; exact ⟨i, rfl, After.pure' h hh _ rfl⟩
  | _ => exact h.elim
def dInt : D → M D
  | .int i => pure (.int i)
  | .bl b => pure (.int (if b then 1 else 0))
  | _ => M.stuck
theorem rc_int : RC1 K (fun xs H Q => (∃ i, xs = [.int i] ∧ Q (.int i) H) ∨ ∃ k, xs = [.bl k] ∧ Q (.int (if k then 1 else 0)) H) dInt := by
  intro W H st x dx Q E hh rx h
  cases dx with
  | int i => have e : x = .int i := rx; subst e; exact .inl ⟨i, rfl, After.pure' h hh _ rfl⟩
  | bl i => have e : x = .bl i := rx; subst e; exact .inr ⟨i, rfl, After.pure' h hh _ rfl⟩
  | _ => exact h.elim
/-! ### two arguments -/
def RC2 (K : PySem.W.Frag) (r : List V → Hp → VK → Prop) (f : D → D → M D) : Prop := ∀ (W : Wd) (H : Hp) (st : Store) (x y : V) (dx dy : D) (Q : VK) (E : XK), Holds K W H st → Rep K W H x dx → Rep K W H y dy → Fin K W H E (f dx dy st) Q → r [x, y] H Q
def dMax2 : D → D → M D
  | .int i, .int j => pure (.int (if j > i then j else i))
  | _, _ => M.stuck
def dMin2 : D → D → M D
  | .int i, .int j => pure (.int (if j < i then j else i))
  | _, _ => M.stuck
theorem rc_max2 : RC2 K (fun xs H Q => ∃ i j, xs = [.int i, .int j] ∧ Q (.int (if j > i then j else i)) H) dMax2 := by
  intro W H st x y dx dy Q E hh rx ry h
  cases dx with
  | int i =>
    cases dy with
    | int j => have e : x = .int i := rx; have e2 : y = .int j := ry; subst e e2; exact ⟨i, j, rfl, After.pure' h hh _ rfl⟩
    | _ => exact h.elim
  | _ => cases dy <;> exact h.elim
theorem rc_min2 : RC2 K (fun xs H Q => ∃ i j, xs = [.int i, .int j] ∧ Q (.int (if j < i then j else i)) H) dMin2 := by
  intro W H st x y dx dy Q E hh rx ry h
  cases dx with
  | int i =>
    cases dy with
    | int j => have e : x = .int i := rx; have e2 : y = .int j := ry; subst e e2; exact ⟨i, j, rfl, After.pure' h hh _ rfl⟩
    | _ => exact h.elim
  | _ => cases dy <;> exact h.elim
/-! ### isinstance, a built-in type -/
/-- the type's name of a datum -/
def tyD : D → Option String
  | .non => some "NoneType"
  | .bl _ => some "bool"
  | .int _ => some "int"
  | .str _ => some "str"
  | .lst _ => some "list"
  | .tup _ => some "tuple"
  | _ => none
theorem tyD_is {d : D} {t : String} (r : Rep K W H v d) (h : tyD d = some t) : TyX K H v (.type t) := by
  cases d with
  | non => cases h; have e : v = .non := r; subst e; exact .base .non
  | bl b => cases h; have e : v = .bl b := r; subst e; exact .base (.bl _)
  | int b => cases h; have e : v = .int b := r; subst e; exact .base (.int _)
  | str b => cases h; obtain ⟨e, _⟩ := r; subst e; exact .base (.str _)
  | lst xs => cases h; obtain ⟨a, vs, rfl, _, ha, _⟩ := r; exact .base (.lst ha)
  | tup xs =>
    cases h
    obtain ⟨a, vs, rfl, ha, _⟩ := Rep.tupSq r
    rcases ha with ha | ⟨o, its, n, h1, h2, _⟩
    · rcases ha with ha | ⟨o, ha⟩
      · exact .base (.tup ha)
      · exact .fTuple ha
    · exact .kTuple h1 h2
  | _ => cases h
/-- what isinstance says of the built-in types here -/
def isiB (T : String) : D → Option Bool
  | .non => kitB "NoneType" T
  | .bl _ => kitB "bool" T
  | .int _ => kitB "int" T
  | .str _ => kitB "str" T
  | .lst _ => kitB "list" T
  | .tup _ => kitB "tuple" T
  | _ => none
theorem isiB_ty {T : String} {d : D} {b : Bool} (h : isiB T d = some b) : ∃ t, tyD d = some t ∧ kitB t T = some b := by
  cases d with
  | non => exact ⟨_, rfl, h⟩
  | bl _ => exact ⟨_, rfl, h⟩
  | int _ => exact ⟨_, rfl, h⟩
  | str _ => exact ⟨_, rfl, h⟩
  | lst _ => exact ⟨_, rfl, h⟩
  | tup _ => exact ⟨_, rfl, h⟩
  | _ => cases h
inductive Ty where
  | int | str | bool | list | tuple
def Ty.nm : Ty → String
  | .int => "int" | .str => "str" | .bool => "bool" | .list => "list" | .tuple => "tuple"
def dIsi (T : Ty) : D → Option Bool
  | .non => some false
  | .bl _ => some (match T with | .int => true | .bool => true | _ => false)
  | .int _ => some (match T with | .int => true | _ => false)
  | .str _ => some (match T with | .str => true | _ => false)
  | .lst _ => some (match T with | .list => true | _ => false)
  | .tup _ => some (match T with | .tuple => true | _ => false)
  | _ => none
theorem dIsi_eq (T : Ty) (d : D) (b : Bool) (h : dIsi T d = some b) : isiB T.nm d = some b := by
  cases d with
  | non => cases h; cases T <;> (show kitB "NoneType" _ = _; decide +kernel)
  | bl _ => cases h; cases T <;> (show kitB "bool" _ = _; decide +kernel)
  | int _ => cases h; cases T <;> (show kitB "int" _ = _; decide +kernel)
  | str _ => cases h; cases T <;> (show kitB "str" _ = _; decide +kernel)
  | lst _ => cases h; cases T <;> (show kitB "list" _ = _; decide +kernel)
  | tup _ => cases h; cases T <;> (show kitB "tuple" _ = _; decide +kernel)
  | _ => cases h
def Ty.isL : Ty → Bool
  | .list => true
  | _ => false
/-- .. of a cell: a list -/
def mIsi (T : Ty) : D → M D
  | .ref k => rdC k >>= fun _ => pure (.bl T.isL)
  | d => ofO (dIsi T d) >>= fun b => pure (.bl b)
theorem isi_run {T : Ty} (hh : Holds K W H st) (r : Rep K W H v d) (h : Fin K W H E (mIsi T d st) Q) : rIsi K [v, .ty T.nm] H Q := by
  have key : ∀ d, Rep K W H v d → Fin K W H E ((ofO (dIsi T d) >>= fun b => pure (.bl b)) st) Q → rIsi K [v, .ty T.nm] H Q := fun d r h => by
    obtain ⟨b, e, h'⟩ := ofO_run h
    obtain ⟨t, e1, e2⟩ := isiB_ty (dIsi_eq T d b e)
    exact ⟨v, .ty T.nm, .type t, .type T.nm, b, rfl, .ty _, tyD_is r e1, kit_ty e2, After.pure' h' hh _ rfl⟩
  cases d with
  | ref k =>
    have h' : Fin K W H E ((rdC k >>= fun _ => pure (.bl T.isL)) st) Q := h
    rcases rdC_cases k st with ⟨xs, q, q2⟩ | q
    · rw [bind_ok q2] at h'
      obtain ⟨a, rfl, ha⟩ := r
      obtain ⟨u, vs, h1, hz, r'⟩ := hh.cell k _ a q ha
      refine ⟨_, .ty T.nm, .type "list", .type T.nm, _, rfl, .ty _, .base (.lst h1), kit_ty ?_, After.pure' h' hh _ rfl⟩
      cases T <;> decide +kernel
    · rw [bind_stuck q] at h'
      exact h'.elim
  | non => exact key _ r h
  | bl _ => exact key _ r h
  | int _ => exact key _ r h
  | str _ => exact key _ r h
  | lst _ => exact key _ r h
  | tup _ => exact key _ r h
  | scr _ => exact key _ r h
  | fn _ => exact key _ r h
  | adr _ => exact key _ r h
end
section
variable {X : Cx} {E : St → XK} {σd : List Sl} {a b : Expr} {ma mb : M D} {pos p : Pos}
theorem de_b2 {r : List V → Hp → VK → Prop} {f : D → D → M D} {id : String} {x : Str} (hc : CallR X (.builtin id) r) (hf : RC2 X.K r f) (hg : Gl X x) (hm : X.mg x = none) (hv : bootBuiltins x = some (.builtin id)) (ha : DE X E σd a ma) (hb : DE X E σd b mb) (hn : x ≠ "__name__") (hdb : (x == ("__debug__" : Str)) = false)
    (he : starEach [a, b] X.env = [(false, eval a X.env), (false, eval b X.env)]) (he2 : starEach [b] X.env = [(false, eval b X.env)]) : DE X E σd (.Call (.Name x p) [a, b] [] pos) (ma >>= fun u => mb >>= fun w => f u w) :=
  ⟨pe_imp (pe_callB hc hg hm hv (pa_cons ha.pe (pa_cons hb.pe pa_nil he2) (by rw [he, he2])) hn hdb (by rw [he, he2]) (by rw [he2]; rfl)) fun σ H Q ⟨W, st, hh, hs, h⟩ => tD_run hh hs h fun d v W1 H1 st1 e1 hh1 hs1 r1 h1 => tD_run hh1 hs1 h1 fun d2 v2 W2 H2 st2 e2 hh2 hs2 r2 h2 => hf W2 H2 st2 v v2 d d2 Q (E σ) hh2 (r1.ext e2) r2 h2⟩
/-- isinstance(e, T) -/
theorem de_isi {T : Ty} {y : Str} {p2 : Pos} (hg : Gl X "isinstance") (hm : X.mg "isinstance" = none) (hgy : Gl X y) (hmy : X.mg y = none) (hvy : bootBuiltins y = some (.type T.nm)) (hny : y ≠ "__name__") (hdy : (y == ("__debug__" : Str)) = false) (ha : DE X E σd a ma)
    (he : starEach [a, .Name y p2] X.env = [(false, eval a X.env), (false, eval (.Name y p2) X.env)]) (he2 : starEach [.Name y p2] X.env = [(false, eval (.Name y p2) X.env)]) : DE X E σd (.Call (.Name "isinstance" p) [a, .Name y p2] [] pos) (ma >>= mIsi T) :=
  ⟨pe_imp (pe_callB call_isi hg hm (by rfl) (pa_cons ha.pe (pa_cons (pe_bltn hgy hmy hvy (v := .ty T.nm) rfl hny hdy) pa_nil he2) (by rw [he, he2])) (by decide) (by decide) (by rw [he, he2]) (by rw [he2]; rfl)) fun σ H Q ⟨W, st, hh, hs, h⟩ => tD_run hh hs h fun d v W1 H1 st1 e1 hh1 hs1 r1 h1 => isi_run hh1 r1 h1⟩
end
end DL
/-! DL11: defs, calls, errors. -/
namespace DL
open PySem PySem.Spec L2 PyProof.Rows

/-! ### what a def promises -/
def SpD (K : PySem.W.Frag) (n : Nat) (mf : List D → M D) : Sp := fun vs H Q E => vs.length = n ∧ ∃ (W : Wd) (st : Store) (ds : List D), Holds K W H st ∧ Reps K W H vs ds ∧ Fin K W H E (mf ds st) Q
structure CalD (P : Program) (w : World) (K : PySem.W.Frag) (mg : Str → Option Value) (base : Heap) (k : Nat) (x : Str) (n : Nat) (mf : List D → M D) : Prop where
  ex : ∃ (f : Addr) (fd : FuncData) (ps : List Str), FnOk P w K mg base (L2N.CX P w) k f fd ps (SpD K n mf) ∧ mg x = some (.ref f) ∧ PySem.W.keepIn K (.ref f) = true ∧ Binds K fd ps [] ∧ ps.length = n
theorem CalD.mono {P : Program} {w : World} {K : PySem.W.Frag} {mg : Str → Option Value} {base : Heap} {j k : Nat} {x : Str} {n : Nat} {mf : List D → M D} (c : CalD P w K mg base j x n mf) (h : j ≤ k) : CalD P w K mg base k x n mf := by
  obtain ⟨f, fd, ps, F, r⟩ := c.ex
  exact ⟨f, fd, ps, F.mono h, r⟩
/-- the same mirror by another word -/
theorem CalD.to {P : Program} {w : World} {K : PySem.W.Frag} {mg : Str → Option Value} {base : Heap} {k : Nat} {x : Str} {n : Nat} {mf mf' : List D → M D} (c : CalD P w K mg base k x n mf) (h : ∀ ds, ds.length = n → mf' ds = mf ds) : CalD P w K mg base k x n mf' := by
  obtain ⟨f, fd, ps, F, r⟩ := c.ex
  exact ⟨f, fd, ps, F.imp fun vs H Q E ⟨hl, W, st, ds, hh, hr, hq⟩ => ⟨hl, W, st, ds, hh, hr, by rw [← h ds (hr.length.symm.trans hl)]; exact hq⟩, r⟩
def startD (N : List Str) (ds : List D) : List Sl := ds.map .val ++ List.replicate (N.length - ds.length) .none
def retM {N : Type} : Fl N Empty → M D
  | .ret d => pure d
  | .next _ => pure .non
  | .brk t => t.elim
  | .cnt t => t.elim
theorem Slots.start {K : PySem.W.Frag} {W : Wd} {H : Hp} {N : List Str} {vs : List V} {ds : List D} (r : Reps K W H vs ds) : Slots K W H (startD N ds) (L2.start N vs) where
  len := by unfold L2.start startD; simp [r.length]
  val := fun i d h => by
    unfold startD at h
    by_cases hi : i < ds.length
    · rw [List.getElem?_append_left (by rw [List.length_map]; exact hi), List.getElem?_map] at h
      cases q : ds[i]? with
      | none => rw [q] at h; cases h
      | some d' =>
        rw [q] at h
        cases h
        obtain ⟨v, q1, q2⟩ := r.get q
        refine ⟨v, ?_, q2⟩
        unfold L2.start
        rw [List.getElem?_append_left (by rw [List.length_map, r.length]; exact hi), List.getElem?_map, q1]
        rfl
    · rw [List.getElem?_append_right (by rw [List.length_map]; omega)] at h
      rw [List.getElem?_replicate] at h
      split at h <;> cases h
section
variable {P : Program} {w : World} {K : PySem.W.Frag} {mg : Str → Option Value} {base : Heap} {x qual : Str} {params : Arguments} {body : List Stmt} {scope : Scope} {kws : List (Str × V)} {f : Addr} {fd : FuncData} {N ps : List Str} {k : Nat} {mf : List D → M D}
theorem fn_cal {T : Type} {eN : T → List Sl} {mB : List D → M (Fl T Empty)} (F : FunD K x qual params body scope [] kws (He.ga K x) fd) (hm : mg x = some (.ref (He.ga K x))) (S : FnScope N ps scope)
    (hb : ∀ (kV doc pm : Value) (an : Option Addr) (cdv ct : Value) (us : List Value), us.length = ps.length → bindArgs (PySem.W.fnOf x qual params body scope .none kV doc pm an cdv ct) ⟨us, []⟩ = pure (ps.zip us))
    (hbody : ∀ (cdv : Value) (A : Around) (outer : List Env) (s : Shared) (H : Hp) (E : XK) (ds : List D), ds.length = ps.length → cdv = .ref (He.cT K (x, none)).1 → Room k (A.deeper (envOfC qual scope s.heap.objs.size (He.ga K x) cdv)) →
      DB (cxOf (L2N.CX P w) P w K mg base N qual scope (He.ga K x) cdv A outer s H E) E (startD N ds) body eN eE (mB ds)) : FnOk P w K mg base (L2N.CX P w) (k + 1) (He.ga K x) fd ps (SpD K ps.length fun ds => mB ds >>= retM) := by
  obtain ⟨oc, od, dV, kV, doc, pm, an, cdv, ct, osl, rfl, lk, hcd, _, _⟩ := F.ex
  have hc1 : cdv = .ref (He.cT K (x, none)).1 := by
    unfold PySem.W.codeIn at hcd
    split at hcd
    · rename_i c
      exact congrArg Value.ref (He.codeOf_eq (p := (x, none)) lk rfl).symm
    · cases hcd
  refine fn_of lk hcd S (fun vs H Q E h => h.1) (fun A outer s H vs Q E hr h => ?_)
  obtain ⟨hl, W, st, ds, hh, r, h⟩ := h
  refine ⟨_, (hbody cdv A outer s H E ds (r.length.symm.trans hl) hc1 hr).pss, W, st, hh, Slots.start r, ?_⟩
  refine (After.bind h).mono fun fl W1 H1 st1 _ e1 hh1 h1 => ?_
  cases fl with
  | next s => exact fun σ' _ => After.pure' h1 hh1 _ rfl
  | ret d => exact fun v r => After.pure' h1 hh1 v r
  | brk t => exact t.elim
  | cnt t => exact t.elim
theorem cal_of {T : Type} {eN : T → List Sl} {mB : List D → M (Fl T Empty)} (F : FunD K x qual params body scope [] kws (He.ga K x) fd) (hm : mg x = some (.ref (He.ga K x))) (S : FnScope N ps scope)
    (hb : ∀ (kV doc pm : Value) (an : Option Addr) (cdv ct : Value) (us : List Value), us.length = ps.length → bindArgs (PySem.W.fnOf x qual params body scope .none kV doc pm an cdv ct) ⟨us, []⟩ = pure (ps.zip us))
    (hbody : ∀ (cdv : Value) (A : Around) (outer : List Env) (s : Shared) (H : Hp) (E : XK) (ds : List D), ds.length = ps.length → cdv = .ref (He.cT K (x, none)).1 → Room k (A.deeper (envOfC qual scope s.heap.objs.size (He.ga K x) cdv)) →
      DB (cxOf (L2N.CX P w) P w K mg base N qual scope (He.ga K x) cdv A outer s H E) E (startD N ds) body eN eE (mB ds)) : CalD P w K mg base (k + 1) x ps.length fun ds => mB ds >>= retM :=
  ⟨He.ga K x, fd, ps, fn_cal F hm S hb hbody, hm, F.kp, F.bindsN hb, rfl⟩
/-- the promise by another word -/
theorem fn_to {n : Nat} {mf mf' : List D → M D} (F : FnOk P w K mg base (L2N.CX P w) k f fd ps (SpD K n mf)) (h : ∀ ds, ds.length = n → mf' ds = mf ds) : FnOk P w K mg base (L2N.CX P w) k f fd ps (SpD K n mf') :=
  F.imp fun vs H Q E ⟨hl, W, st, ds, hh, hr, hq⟩ => ⟨hl, W, st, ds, hh, hr, by rw [← h ds (hr.length.symm.trans hl)]; exact hq⟩
/-- nothing is promised -/
theorem cal_stuck (F : FunD K x qual params body scope [] kws f fd) (hm : mg x = some (.ref f)) (S : FnScope N ps scope)
    (hb : ∀ (kV doc pm : Value) (an : Option Addr) (cdv ct : Value) (us : List Value), us.length = ps.length → bindArgs (PySem.W.fnOf x qual params body scope .none kV doc pm an cdv ct) ⟨us, []⟩ = pure (ps.zip us)) : CalD P w K mg base (k + 1) x ps.length fun ds => M.stuck := by
  refine ⟨f, fd, ps, F.ok S (fun vs H Q E h => h.1) (fun cdv A outer s H vs Q E hr h => ?_), hm, F.kp, F.bindsN hb, rfl⟩
  obtain ⟨hl, W, st, ds, hh, r, h⟩ := h
  exact h.elim
end
def mk1 (g : D → M D) : List D → M D
  | [a] => g a
  | _ => M.stuck
def mk2 (g : D → D → M D) : List D → M D
  | [a, b] => g a b
  | _ => M.stuck
def mk3 (g : D → D → D → M D) : List D → M D
  | [a, b, c] => g a b c
  | _ => M.stuck
def mk4 (g : D → D → D → D → M D) : List D → M D
  | [a, b, c, d] => g a b c d
  | _ => M.stuck
def mk0 (g : M D) : List D → M D
  | [] => g
  | _ => M.stuck
section
variable {X : Cx} {E : St → XK} {σd : List Sl} {e : Expr} {es : List Expr} {m : M (List D)} {pos p : Pos} {k j n : Nat} {x : Str} {mf : List D → M D}
/-- f(e, ..) -/
theorem de_call (c : CalD X.prog X.w X.K X.mg X.base j x n mf) (hr : Room k X.A) (hj : j ≤ k) (hg : Gl X x) (hx : ∀ σ, PassesAt (L2N.CX X.prog X.w) X σ (E σ)) (ha : DA X E σd (e :: es) m) (hn : n = es.length + 1) (hl : (starEach (e :: es) X.env).length = es.length + 1)
    (hdb : (x == ("__debug__" : Str)) = false) (he : starEach (e :: es) X.env = (false, eval e X.env) :: starEach es X.env) (hpl : (backTo pos (starEach es X.env)).any (·.1) = false)
    (hs : ∀ ds st, ds.length ≠ n → mf ds st = .stuck) : DE X E σd (.Call (.Name x p) (e :: es) [] pos) (m >>= mf) := by
  obtain ⟨f, fd, ps, F, hm, hk, hb, hps⟩ := c.ex
  refine ⟨pe_imp (pe_callSD F (hr.mono hj) hg hm hk hb .nil hx ha.pa hdb he hpl) fun σ H Q ⟨W, st, hh, hs1, h⟩ => ⟨W, st, hh, hs1, (After.next hs1 hh h).mono fun ds W1 H1 st1 _ _ _ ⟨e1, hh1, hs2, h1⟩ vs r1 => ?_⟩⟩
  show SpD X.K n mf (vs ++ []) H1 Q (E σ)
  rw [List.append_nil]
  refine ⟨?_, W1, st1, ds, hh1, r1, h1⟩
  by_cases hd : ds.length = n
  · exact r1.length.trans hd
  · have h1' : After X.K W1 H1 (E σ) (mf ds st1) _ := h1
    rw [hs ds st1 hd] at h1'
    exact h1'.elim
/-- f() -/
theorem de_call0 (c : CalD X.prog X.w X.K X.mg X.base j x 0 mf) (hr : Room k X.A) (hj : j ≤ k) (hg : Gl X x) (hx : Passes (L2N.CX X.prog X.w) X E1) (hE : ∀ σ, E σ = E1) (hdb : (x == ("__debug__" : Str)) = false) : DE X E σd (.Call (.Name x p) [] [] pos) (mf []) := by
  obtain ⟨f, fd, ps, F, hm, hk, hb, hps⟩ := c.ex
  exact ⟨pe_imp (pe_call0 F (hr.mono hj) hg hm hk hb .nil hx hdb) fun σ H Q ⟨W, st, hh, hs1, h⟩ => ⟨rfl, W, st, [], hh, rfl, by rw [← hE σ]; exact h⟩⟩
theorem mk1_len (g : D → M D) : ∀ ds st, ds.length ≠ 1 → mk1 g ds st = .stuck := fun ds st h => match ds, h with
  | [], _ => rfl
  | [_], h => absurd rfl h
  | _ :: _ :: _, _ => rfl
theorem mk2_len (g : D → D → M D) : ∀ ds st, ds.length ≠ 2 → mk2 g ds st = .stuck := fun ds st h => match ds, h with
  | [], _ => rfl
  | [_], _ => rfl
  | [_, _], h => absurd rfl h
  | _ :: _ :: _ :: _, _ => rfl
theorem mk3_len (g : D → D → D → M D) : ∀ ds st, ds.length ≠ 3 → mk3 g ds st = .stuck := fun ds st h => match ds, h with
  | [], _ => rfl
  | [_], _ => rfl
  | [_, _], _ => rfl
  | [_, _, _], h => absurd rfl h
  | _ :: _ :: _ :: _ :: _, _ => rfl
theorem mk4_len (g : D → D → D → D → M D) : ∀ ds st, ds.length ≠ 4 → mk4 g ds st = .stuck := fun ds st h => match ds, h with
  | [], _ => rfl
  | [_], _ => rfl
  | [_, _], _ => rfl
  | [_, _, _], _ => rfl
  | [_, _, _, _], h => absurd rfl h
  | _ :: _ :: _ :: _ :: _ :: _, _ => rfl
end
/-- within a comprehension nothing is let out -/
theorem passB {X : Cx} (σ : St) : PassesAt (L2N.CX X.prog X.w) X σ (E0' σ) := fun _ _ _ _ _ _ c => by
  obtain ⟨_, _, _, _, _, _, _, _, _, _, _, _, z⟩ := c
  exact z.elim
/-- in a def's body -/
theorem passF {X : Cx} {E : XK} (tk : L2N.Takes X (fun cls d _ H => E cls d H)) (σ : St) : PassesAt (L2N.CX X.prog X.w) X σ E := L2N.passAt tk σ
/-! ### raise X('..') -/
/-- an own error class -/
def ErrC (K : PySem.W.Frag) (mg : Str → Option Value) (x : Str) : Prop := ∃ (bmB : List Value) (B newId initId : String), ExcBaseFacts B newId initId bmB ∧ PySem.W.excIn K (He.ga K x) bmB newId = true ∧ mg x = some (.ref (He.ga K x)) ∧ PySem.W.keepIn K (.ref (He.ga K x)) = true ∧
  PySem.W.subIn K (.ref (He.ga K x)) (.type "BaseException") = some true ∧ PySem.W.typeIn K (.ref (He.ga K x)) = some (.type "type")
section
variable {X : Cx} {E : XK} {σd : List Sl} {N T : Type} {eN : N → List Sl} {eT : T → List Sl} {ss : List Stmt} {pos pos' p p2 : Pos}
theorem db_raise {x m : Str} {j : Nat} (hc : X.calm = true) (tk : L2N.Takes X (fun cls d _ H => E cls d H)) (c : ErrC X.K X.mg x) (hg : Gl X x) (hdb : (x == ("__debug__" : Str)) = false) :
    DB X E σd (.Raise (some (.Call (.Name x p) [.Constant (.str m) j p2] [] pos)) none pos' :: ss) eN eT (M.throw ⟨x, []⟩) := by
  obtain ⟨bmB, B, newId, initId, F, q, gC, kC, bC, tC⟩ := c
  refine ⟨pss_imp (pss_cons (L2N.ps_raise hc tk (L2N.pmk_own F q gC kC (raises_own bC tC) hg hdb)) pss_never) fun Dn σ H ⟨W, st, hh, hs, h⟩ => ?_⟩
  exact h W H _ none Ext.refl hh ⟨rfl, .inl ⟨rfl, rfl⟩⟩
end
end DL
/-! DL12: texts, sorted, lists put together, enumerate. -/
namespace DL
open PySem PySem.Spec L2 PyProof.Rows
open TL (joinL spl spl_nil spl_hit spl_miss pre)

section
variable {K : PySem.W.Frag} {W W' : Wd} {H H' : Hp} {st : Store} {v x y : V} {d : D} {E : XK} {Q : VK} {ds : List D}
/-! ### equality, a cell as it is now -/
def pk : D → M D
  | .ref k => rdC k >>= fun xs => pure (.lst xs)
  | d => pure d
theorem pk_run {α : Type} {f : D → M α} {k : α → Wd → Hp → Store → Prop} (hh : Holds K W H st) (r : Rep K W H v d) (h : After K W H E ((pk d >>= f) st) k) : ∃ W' d', Rep K W' H v d' ∧ After K W H E (f d' st) k := by
  cases d with
  | ref i =>
    have h' : After K W H E (((rdC i >>= fun xs => pure (.lst xs)) >>= f) st) k := h
    rw [M.bind_assoc] at h'
    rcases rdC_cases i st with ⟨xs, q, q2⟩ | q
    · rw [bind_ok q2] at h'
      obtain ⟨a, rfl, ha⟩ := r
      obtain ⟨u, vs, h1, hz, h2⟩ := hh.cell i _ a q ha
      exact ⟨W.less a, .lst xs, ⟨a, vs, rfl, fun z => z.2 rfl, h1, hz, Reps.mono (W := W) (W' := W.less a) rfl (fun _ z => z.1) _ _ h2⟩, h'⟩
    · rw [bind_stuck q] at h'
      exact h'.elim
  | _ => exact ⟨W, _, r, h⟩
def dEqC (x y : D) : M D := pk x >>= fun x => pk y >>= fun y => dEq x y
def dNeC (x y : D) : M D := pk x >>= fun x => pk y >>= fun y => dNe x y
theorem rd_eqC : RD K (rEqD K) dEqC := by
  intro W H st x y dx dy Q E hh rx ry hq
  obtain ⟨W1, d1, r1, h1⟩ := pk_run hh rx hq
  obtain ⟨W2, d2, r2, h2⟩ := pk_run hh ry h1
  unfold dEq at h2
  by_cases hz : okD 60 d1 = true ∧ okD 60 d2 = true
  · rw [if_pos hz] at h2
    refine ⟨toPy d1, toPy d2, (okD_dp 60 d1 x hz.1 r1).1, (okD_dp 60 d2 y hz.2 r2).1, okD_shaped hz.1 r1, okD_shaped hz.2 r2, ?_⟩
    rw [eqd_py 60 d1 d2 hz.1 hz.2]
    exact Fin.ret h2 hh rfl
  · rw [if_neg hz] at h2
    exact h2.elim
theorem rd_neC : RD K (rNeD K) dNeC := by
  intro W H st x y dx dy Q E hh rx ry hq
  obtain ⟨W1, d1, r1, h1⟩ := pk_run hh rx hq
  obtain ⟨W2, d2, r2, h2⟩ := pk_run hh ry h1
  unfold dNe at h2
  by_cases hz : okD 60 d1 = true ∧ okD 60 d2 = true
  · rw [if_pos hz] at h2
    refine ⟨toPy d1, toPy d2, (okD_dp 60 d1 x hz.1 r1).1, (okD_dp 60 d2 y hz.2 r2).1, okD_shaped hz.1 r1, okD_shaped hz.2 r2, ?_⟩
    rw [eqd_py 60 d1 d2 hz.1 hz.2]
    exact Fin.ret h2 hh rfl
  · rw [if_neg hz] at h2
    exact h2.elim
/-! ### a list and a list -/
def dCat (fin : List D → M D) (x y : D) : M D := asLL x >>= fun xs => asLL y >>= fun ys => fin (xs ++ ys)
/-- both stand in the heap as lists -/
theorem asLL_at {α : Type} {f : List D → M α} {k : α → Wd → Hp → Store → Prop} (hh : Holds K W H st) (r : Rep K W H v d) (h : After K W H E ((asLL d >>= f) st) k) :
    ∃ a vs xs, v = .ref a ∧ H a = some (.lst vs) ∧ xs.length ≤ 16777216 ∧ Reps K W H vs xs ∧ After K W H E (f xs st) k := by
  cases d with
  | lst xs =>
    obtain ⟨a, vs, rfl, nu, ha, hz, r⟩ := r
    exact ⟨a, vs, xs, rfl, ha, hz, r, h⟩
  | ref n =>
    have h' : After K W H E ((rdC n >>= f) st) k := h
    rcases rdC_cases n st with ⟨xs, q, q2⟩ | q
    · rw [bind_ok q2] at h'
      obtain ⟨a, rfl, ha⟩ := r
      obtain ⟨u, vs, h1, hz, r'⟩ := hh.cell n _ a q ha
      exact ⟨a, vs, xs, rfl, h1, hz, r', h'⟩
    · rw [bind_stuck q] at h'
      exact h'.elim
  | _ => exact h.elim
theorem rd_cat {fin : List D → M D} (hf : FinOk K fin) : RD K rCat (dCat fin) := by
  intro W H st x y dx dy Q E hh rx ry h
  obtain ⟨a, vs, xs, rfl, ha, hz, r, h1⟩ := asLL_at hh rx h
  obtain ⟨b, ws, ys, rfl, hb, hz2, r2, h2⟩ := asLL_at hh ry h1
  have hl := hf.some h2
  exact ⟨a, b, vs, ws, rfl, rfl, ha, hb, by rw [r.length, r2.length, sizeLine_eq, ← List.length_append]; exact hl, fun p hp => hf.new hh hp hl (r.append r2) h2⟩
/-! ### texts -/
def joinOk (a : List Nat) (ys : List (List Nat)) : Bool := decide ((ys.map (·.length)).sum + ys.length * a.length ≤ 16777216)
def dJoin : D → D → M D
  | .str a, d => asL d >>= fun xs => ofO (strsOf xs) >>= fun ys => if joinOk a ys = true then pure (.str (joinL a ys)) else M.stuck
  | _, _ => M.stuck
theorem joinL_len (a : List Nat) : ∀ ys : List (List Nat), (joinL a ys).length ≤ (ys.map (·.length)).sum + ys.length * a.length
  | [] => Nat.zero_le _
  | [p] => by show p.length ≤ _; simp
  | p :: q :: r => by
    have ih := joinL_len a (q :: r)
    show (p ++ (a ++ joinL a (q :: r))).length ≤ _
    rw [List.length_append, List.length_append, List.map_cons, List.sum_cons, List.length_cons (a := p), Nat.add_mul]
    omega
theorem joinL_mem (a : List Nat) : ∀ (ys : List (List Nat)) (c : Nat), c ∈ joinL a ys → c ∈ a ∨ ∃ y ∈ ys, c ∈ y
  | [], _, h => nomatch h
  | [p], c, h => .inr ⟨p, by simp, h⟩
  | p :: q :: r, c, h => by
    have h' : c ∈ p ++ (a ++ joinL a (q :: r)) := h
    rcases List.mem_append.mp h' with h1 | h1
    · exact .inr ⟨p, by simp, h1⟩
    · rcases List.mem_append.mp h1 with h2 | h2
      · exact .inl h2
      · rcases joinL_mem a (q :: r) c h2 with h3 | ⟨y, h3, h4⟩
        · exact .inl h3
        · exact .inr ⟨y, List.mem_cons_of_mem _ h3, h4⟩
def rJoin (K : PySem.W.Frag) : V → List V → Hp → VK → Prop := fun x xs H Q => ∃ a p, ∃ ys : List Str, x = .str a ∧ xs = [.ref p] ∧ (SqL K H p (ys.map V.str) ∨ SqT K H p (ys.map V.str)) ∧ (ys.map (·.length)).sum + ys.length * a.length ≤ 16777216 ∧ Q (.str (Txt.join a ys)) H
theorem join_codes (a : List Nat) (ys : List (List Nat)) : Txt.join (mkS a) (ys.map mkS) = mkS (joinL a ys) := by
  have e : (Txt.join (mkS a) (ys.map mkS)).cps.toList = joinL a ys := by
    have h := TL.tl_join (mkS a) (ys.map mkS)
    have e2 : (ys.map mkS).map TL.tl = ys := by
      rw [List.map_map]
      exact (List.map_congr_left fun _ _ => rfl).trans (List.map_id _)
    rw [e2] at h
    rw [TL.join_eq]
    exact h
  rw [← e, mkS_of]
theorem join_run {x y : V} {dx dy : D} (hh : Holds K W H st) (rx : Rep K W H x dx) (ry : Rep K W H y dy) (h : Fin K W H E (dJoin dx dy st) Q) : rJoin K x [y] H Q := by
  cases dx with
  | str a =>
    have h' : Fin K W H E ((asL dy >>= fun xs => ofO (strsOf xs) >>= fun ys => if joinOk a ys = true then pure (.str (joinL a ys)) else M.stuck) st) Q := h
    obtain ⟨p, vs, xs, rfl, hq, hz, r, h1⟩ := asL_run hh ry h'
    obtain ⟨ys, e, h2⟩ := ofO_run h1
    by_cases hj : joinOk a ys = true
    · rw [if_pos hj] at h2
      rw [strsOf_eq e] at r
      have r' := r.strs
      rw [r'] at hq
      have hj' : (ys.map (·.length)).sum + ys.length * a.length ≤ 16777216 := of_decide_eq_true hj
      refine ⟨mkS a, p, ys.map mkS, rx.1, rfl, hq, ?_, ?_⟩
      · rw [List.length_map, mkS_len, List.map_map]
        have e3 : (ys.map ((·.length) ∘ mkS)) = ys.map (·.length) := List.map_congr_left fun z _ => mkS_len z
        rw [e3]
        exact hj'
      · rw [join_codes]
        refine After.pure' h2 hh _ ⟨rfl, sOk_iff.mpr ⟨Nat.le_trans (joinL_len a ys) hj', fun c hc => ?_⟩⟩
        rcases joinL_mem a ys c hc with h3 | ⟨z, h3, h4⟩
        · exact (sOk_iff.mp rx.2).2 c h3
        · exact (sOk_iff.mp (r.strOk z h3)).2 c h4
    · rw [if_neg hj] at h2
      exact h2.elim
  | _ => exact h.elim
def splOk (a b : List Nat) : Bool := !b.isEmpty && decide (a.length + 2 ≤ 16777216) && decide (¬ Builtin.Str.strKind (mkS a) < Builtin.Str.strKind (mkS b))
def dSplit (fin : List D → M D) : D → D → M D
  | .str a, .str b => if splOk a b = true then fin ((spl b 0 [] a).map D.str) else M.stuck
  | _, _ => M.stuck
theorem spl_mem (S : List Nat) : ∀ (l : List Nat) (k : Nat) (acc : List Nat) (z : List Nat) (c : Nat), z ∈ spl S k acc l → c ∈ z → c ∈ acc ∨ c ∈ l
  | [], k, acc, z, c, h, hc => by
    rw [spl_nil] at h
    rw [List.mem_singleton.mp h] at hc
    exact .inl hc
  | d :: r, 0, acc, z, c, h, hc => by
    by_cases hp : pre S (d :: r) = true
    · rw [spl_hit hp] at h
      rcases List.mem_cons.mp h with e | h
      · rw [e] at hc; exact .inl hc
      · rcases spl_mem S r _ [] z c h hc with q | q
        · cases q
        · exact .inr (List.mem_cons_of_mem _ q)
    · rw [spl_miss (by simpa using hp)] at h
      rcases spl_mem S r 0 (acc ++ [d]) z c h hc with q | q
      · rcases List.mem_append.mp q with q | q
        · exact .inl q
        · rw [List.mem_singleton.mp q]; exact .inr List.mem_cons_self
      · exact .inr (List.mem_cons_of_mem _ q)
  | d :: r, k + 1, acc, z, c, h, hc => by
    have h' : z ∈ spl S k acc r := h
    rcases spl_mem S r k acc z c h' hc with q | q
    · exact .inl q
    · exact .inr (List.mem_cons_of_mem _ q)
theorem spl_len (S : List Nat) : ∀ (l : List Nat) (k : Nat) (acc : List Nat) (z : List Nat), z ∈ spl S k acc l → z.length ≤ acc.length + l.length
  | [], k, acc, z, h => by
    rw [spl_nil] at h
    rw [List.mem_singleton.mp h]
    simp
  | d :: r, 0, acc, z, h => by
    by_cases hp : pre S (d :: r) = true
    · rw [spl_hit hp] at h
      rcases List.mem_cons.mp h with e | h
      · rw [e]; omega
      · have := spl_len S r _ [] z h
        simp only [List.length_nil, List.length_cons] at this ⊢
        omega
    · rw [spl_miss (by simpa using hp)] at h
      have := spl_len S r 0 (acc ++ [d]) z h
      simp only [List.length_append, List.length_cons, List.length_nil] at this ⊢
      omega
  | d :: r, k + 1, acc, z, h => by
    have h' : z ∈ spl S k acc r := h
    have := spl_len S r k acc z h'
    simp only [List.length_cons]
    omega
def rSplit : V → List V → Hp → VK → Prop := fun x xs H Q => ∃ a b, x = .str a ∧ xs = [.str b] ∧ (b.length == 0) = false ∧ a.length + 2 ≤ sizeLine ∧ rNewStrs (Txt.split a b) H Q
theorem split_run {fin : List D → M D} {x y : V} {dx dy : D} (hf : FinOk K fin) (hh : Holds K W H st) (rx : Rep K W H x dx) (ry : Rep K W H y dy) (h : Fin K W H E (dSplit fin dx dy st) Q) : rSplit x [y] H Q := by
  cases dx with
  | str a =>
    cases dy with
    | str b =>
      have h' : Fin K W H E ((if splOk a b = true then fin ((spl b 0 [] a).map D.str) else M.stuck : M D) st) Q := h
      by_cases hs : splOk a b = true
      · rw [if_pos hs] at h'
        unfold splOk at hs
        rw [Bool.and_eq_true, Bool.and_eq_true] at hs
        obtain ⟨⟨h1, h2⟩, h3⟩ := hs
        have hb : b ≠ [] := by
          intro e; rw [e] at h1; cases h1
        have h2' := of_decide_eq_true h2
        have h3' := of_decide_eq_true h3
        refine ⟨mkS a, mkS b, rx.1, by rw [ry.1], ?_, by rw [mkS_len, sizeLine_eq]; exact h2', fun p hp => ?_⟩
        · rw [mkS_len]
          cases b with
          | nil => exact absurd rfl hb
          | cons _ _ => rfl
        · have e : (Txt.split (mkS a) (mkS b)).map TL.tl = spl b 0 [] a := TL.split_spl (mkS a) (mkS b) hb h3'
          have e2 : Txt.split (mkS a) (mkS b) = (spl b 0 [] a).map mkS := by
            rw [← e, List.map_map]
            have : (Txt.split (mkS a) (mkS b)).map (mkS ∘ TL.tl) = (Txt.split (mkS a) (mkS b)).map id := List.map_congr_left fun z _ => mkS_of z
            rw [this, List.map_id]
          rw [e2]
          refine hf.new hh hp (hf.some h') (Reps.ofStrs _ fun z hz => sOk_iff.mpr ⟨?_, fun c hc => ?_⟩) h'
          · have := spl_len b a 0 [] z hz
            have := (sOk_iff.mp rx.2).1
            simp only [List.length_nil] at *
            omega
          · rcases spl_mem b a 0 [] z c hz hc with q | q
            · cases q
            · exact (sOk_iff.mp rx.2).2 c q
      · rw [if_neg hs] at h'
        exact h'.elim
    | _ => exact h.elim
  | _ => cases dy <;> exact h.elim
def dCount : D → D → M D
  | .str a, .str b => pure (.int (Txt.count (mkS a) (mkS b)))
  | _, _ => M.stuck
def rCount : V → List V → Hp → VK → Prop := fun x xs H Q => ∃ a b, x = .str a ∧ xs = [.str b] ∧ Q (.int (Txt.count a b)) H
theorem count_run {x y : V} {dx dy : D} (hh : Holds K W H st) (rx : Rep K W H x dx) (ry : Rep K W H y dy) (h : Fin K W H E (dCount dx dy st) Q) : rCount x [y] H Q := by
  cases dx with
  | str a =>
    cases dy with
    | str b => exact ⟨mkS a, mkS b, rx.1, by rw [ry.1], After.pure' h hh _ rfl⟩
    | _ => exact h.elim
  | _ => cases dy <;> exact h.elim
/-- the value is a text -/
def isS : D → M Unit
  | .str _ => pure ()
  | _ => M.stuck
end
section
variable {X : Cx} {E : St → XK} {σd : List Sl} {o e : Expr} {mo me : M D} {apos cpos : Pos}
/-- text.m(e) -/
theorem de_sm1 {id : String} {name : Str} {r : V → List V → Hp → VK → Prop} {f : D → D → M D} (slot : Slot "str" name id) (ty : typeOf (.builtin id) = pure (.type "method_descriptor")) (rule : MtR X id r)
    (hr : ∀ (W : Wd) (H : Hp) (st : Store) (x y : V) (dx dy : D) (Q : VK) (E : XK), Holds X.K W H st → Rep X.K W H x dx → Rep X.K W H y dy → Fin X.K W H E (f dx dy st) Q → r x [y] H Q) (ho : DE X E σd o mo) (he : DE X E σd e me)
    (hs : starEach [e] X.env = [(false, eval e X.env)]) (hbase : attributeBase o name X.env (eval o X.env) = eval o X.env) (hline : (apos.endLine == cpos.line) = true) : DE X E σd (.Call (.Attribute o name apos) [e] [] cpos) (mo >>= fun x => isS x >>= fun _ => me >>= fun y => f x y) :=
  ⟨pe_imp (pe_m1 slot ty rule ho.pe he.pe hs hbase hline) fun σ H Q ⟨W, st, hh, hs, h⟩ => tD_run hh hs h fun d v W1 H1 st1 e1 hh1 hs1 r1 h1 => by
    cases d with
    | str a => exact ⟨⟨_, r1.1⟩, tD_run hh1 hs1 h1 fun d2 v2 W2 H2 st2 e2 hh2 hs2 r2 h2 => hr W2 H2 st2 v v2 (.str a) d2 Q (E σ) hh2 r1 r2 h2⟩
    | _ => exact h1.elim⟩
theorem de_join (ho : DE X E σd o mo) (he : DE X E σd e me) (hs : starEach [e] X.env = [(false, eval e X.env)]) (hbase : attributeBase o "join" X.env (eval o X.env) = eval o X.env) (hline : (apos.endLine == cpos.line) = true) :
    DE X E σd (.Call (.Attribute o "join" apos) [e] [] cpos) (mo >>= fun x => isS x >>= fun _ => me >>= fun y => dJoin x y) :=
  de_sm1 PySem.F.slot_str_join PySem.F.type_str_join mt_join (fun W H st x y dx dy Q E hh rx ry h => join_run hh rx ry h) ho he hs hbase hline
theorem de_split {fin : List D → M D} (hf : FinOk X.K fin) (ho : DE X E σd o mo) (he : DE X E σd e me) (hs : starEach [e] X.env = [(false, eval e X.env)]) (hbase : attributeBase o "split" X.env (eval o X.env) = eval o X.env) (hline : (apos.endLine == cpos.line) = true) :
    DE X E σd (.Call (.Attribute o "split" apos) [e] [] cpos) (mo >>= fun x => isS x >>= fun _ => me >>= fun y => dSplit fin x y) :=
  de_sm1 PySem.F.slot_str_split PySem.F.type_str_split mt_split (fun W H st x y dx dy Q E hh rx ry h => split_run hf hh rx ry h) ho he hs hbase hline
theorem de_count (ho : DE X E σd o mo) (he : DE X E σd e me) (hs : starEach [e] X.env = [(false, eval e X.env)]) (hbase : attributeBase o "count" X.env (eval o X.env) = eval o X.env) (hline : (apos.endLine == cpos.line) = true) :
    DE X E σd (.Call (.Attribute o "count" apos) [e] [] cpos) (mo >>= fun x => isS x >>= fun _ => me >>= fun y => dCount x y) :=
  de_sm1 PySem.F.slot_str_count PySem.F.type_str_count mt_count (fun W H st x y dx dy Q E hh rx ry h => count_run hh rx ry h) ho he hs hbase hline
end
/-! ### sorted -/
/-- sorted(xs), data that compare: a new list -/
def rSortD (K : PySem.W.Frag) (un : Nat) : List V → Hp → VK → Prop := fun vs H Q => ∃ (a : Addr) (ps : List (V × PyData)), vs = [V.ref a] ∧ SqL K H a (ps.map (·.1)) ∧ (∀ p ∈ ps, Dp K H p.1 p.2) ∧ PySem.W.AllAlike (ps.map (·.2)) ∧ PySem.W.Sortable (ps.map (·.2)) ∧ (∀ p ∈ ps, un + 2 + p.2.depth < cLine) ∧
  ∀ q, H q = none → Q (.ref q) (upd H q (.lst ((ps.mergeSort (PySem.W.dataLe false (·.2))).map (·.1))))
theorem each_of {α : Type} {g : α → V} : ∀ {ps : List α} {us : List Value}, Vals (ps.map g) us → PySem.W.EachIs (fun u p => RelV (g p) u) us ps
  | [], _, h => by cases h; exact .nil
  | p :: ps, _, h => by
    cases h with
    | cons r t => exact .cons r (each_of t)
theorem of_each {α : Type} {g : α → V} : ∀ {ps : List α} {us : List Value}, PySem.W.EachIs (fun u p => RelV (g p) u) us ps → Vals (ps.map g) us
  | _, _, .nil => .nil
  | _, _, .cons r t => .cons r (of_each t)
theorem each_imp {α β : Type} {R R' : α → β → Prop} : ∀ {us : List α} {ps : List β}, PySem.W.EachIs R us ps → (∀ u, ∀ p ∈ ps, R u p → R' u p) → PySem.W.EachIs R' us ps
  | _, _, .nil, _ => .nil
  | _, _, .cons r t, h => .cons (h _ _ List.mem_cons_self r) (each_imp t fun u p hp => h u p (List.mem_cons_of_mem _ hp))
theorem cr_sortedD {X : Cx} : CallR X (.builtin "sorted") (rSortD X.K X.A.units) := by
  intro pins s σ H vs us Q I r h
  obtain ⟨a, ps, rfl, hs, hd, hal, hk, hu, q⟩ := h
  obtain ⟨its, rv, hl, hz⟩ := I.list hs
  obtain ⟨u, rfl, ru⟩ := vals1 r
  obtain rfl : u = Value.ref a := ru
  have e := each_of rv
  rw [List.length_map] at hz
  refine PySem.W.sorted_data (enc := fun p : V × PyData => p.2) hl.isList e (each_imp e fun u p hp ru => Dp.reads I p.2 p.1 u (hd p hp) ru) hal hk hz hu fun out ho eo => ?_
  obtain ⟨ep, he'⟩ := PyProof.Rows.sortedAll_at s.heap its (List.toArray out)
  have ev : Vals ((ps.mergeSort (PySem.W.dataLe false (·.2))).map (·.1)) out := of_each eo
  refine ⟨.ref (s.heap.objs.size + 1), upd H (s.heap.objs.size + 1) (.lst ((ps.mergeSort (PySem.W.dataLe false (·.2))).map (·.1))), I.laid (t' := s.toks) (fun _ _ => PyProof.Rows.sortedAll_old) (Nat.le_succ _) ⟨?_, out, ep, ev, he'⟩, rfl, q _ (I.hok.fresh (Nat.le_succ _))⟩
  rw [List.length_map, List.length_mergeSort]
  exact hz
/-- the data compare -/
def sortOk (ds : List D) : Bool := okDs 20 ds && (ds.all fun x => ds.all fun y => PySem.W.alike (toPy x) (toPy y)) && ((ds.all fun x => match x with | .tup (_ :: _) => true | _ => false) || ds.all fun x => match x with | .bl _ => true | .int _ => true | .str _ => true | .lst _ => true | _ => false)
def srt (ds : List D) : List D := ds.mergeSort (PySem.W.dataLe false toPy)
def dSorted (fin : List D → M D) (d : D) : M D := asLL d >>= fun xs => if sortOk xs = true then fin (srt xs) else M.stuck
theorem okDs_at {n : Nat} : ∀ {ds : List D}, okDs n ds = true → ∀ d ∈ ds, okD n d = true
  | d :: ds, h, x, hx => by
    have h' : (okD n d && okDs n ds) = true := by unfold okDs at h; exact h
    rw [Bool.and_eq_true] at h'
    rcases List.mem_cons.mp hx with e | hx
    · rw [e]; exact h'.1
    · exact okDs_at h'.2 x hx
theorem zip_rep {K : PySem.W.Frag} {W : Wd} {H : Hp} : ∀ {ds : List D} {vs : List V}, Reps K W H vs ds → ∃ qs : List (V × D), qs.map (·.1) = vs ∧ qs.map (·.2) = ds ∧ ∀ q ∈ qs, Rep K W H q.1 q.2
  | [], _, h => by
    have e : _ = [] := h
    rw [e]
    exact ⟨[], rfl, rfl, fun q hq => nomatch hq⟩
  | d :: ds, _, h => by
    obtain ⟨v, r, rfl, h1, h2⟩ := h
    obtain ⟨qs, e1, e2, e3⟩ := zip_rep h2
    refine ⟨(v, d) :: qs, by rw [List.map_cons, e1], by rw [List.map_cons, e2], fun q hq => ?_⟩
    rcases List.mem_cons.mp hq with e | hq
    · rw [e]; exact h1
    · exact e3 q hq
theorem Reps.ofQ {K : PySem.W.Frag} {W : Wd} {H : Hp} : ∀ {qs : List (V × D)}, (∀ q ∈ qs, Rep K W H q.1 q.2) → Reps K W H (qs.map (·.1)) (qs.map (·.2))
  | [], _ => rfl
  | q :: qs, h => ⟨_, _, rfl, h q List.mem_cons_self, Reps.ofQ fun z hz => h z (List.mem_cons_of_mem _ hz)⟩
theorem rc_sorted {K : PySem.W.Frag} {fin : List D → M D} {un : Nat} (hf : FinOk K fin) (hu : un + 65 < cLine) : RC1 K (rSortD K un) (dSorted fin) := by
  intro W H st x dx Q E hh rx h
  obtain ⟨a, vs, xs, rfl, hq, hz, r, h1⟩ := asLL_run hh rx h
  by_cases hs : sortOk xs = true
  · rw [if_pos hs] at h1
    unfold sortOk at hs
    rw [Bool.and_eq_true, Bool.and_eq_true] at hs
    obtain ⟨⟨h2, h3⟩, h4⟩ := hs
    obtain ⟨qs, e1, e2, e3⟩ := zip_rep r
    subst e1 e2
    have hm : ∀ q ∈ qs, okD 20 q.2 = true := fun q hq => okDs_at h2 _ (List.mem_map.mpr ⟨q, hq, rfl⟩)
    have er : (qs.map fun q => (q.1, toPy q.2)).map (·.1) = qs.map (·.1) := by rw [List.map_map]; rfl
    have er2 : (qs.map fun q => (q.1, toPy q.2)).map (·.2) = (qs.map (·.2)).map toPy := by rw [List.map_map, List.map_map]; rfl
    refine ⟨a, qs.map fun q => (q.1, toPy q.2), rfl, by rw [er]; exact hq, fun p hp => ?_, ?_, ?_, fun p hp => ?_, fun q hp => ?_⟩
    · obtain ⟨q, hq, rfl⟩ := List.mem_map.mp hp
      exact (okD_dp 20 q.2 q.1 (hm q hq) (e3 q hq)).1
    · rw [er2]
      intro d hd d' hd'
      obtain ⟨y, hy, rfl⟩ := List.mem_map.mp hd
      obtain ⟨y', hy', rfl⟩ := List.mem_map.mp hd'
      exact List.all_eq_true.mp (List.all_eq_true.mp h3 y hy) y' hy'
    · rw [er2]
      rw [Bool.or_eq_true] at h4
      rcases h4 with h4 | h4
      · refine .inl fun d hd => ?_
        obtain ⟨y, hy, rfl⟩ := List.mem_map.mp hd
        have := List.all_eq_true.mp h4 y hy
        split at this
        · exact ⟨_, _, rfl⟩
        · cases this
      · refine .inr fun d hd => ?_
        obtain ⟨y, hy, rfl⟩ := List.mem_map.mp hd
        have := List.all_eq_true.mp h4 y hy
        cases y with
        | bl _ => exact ⟨by simp [toPy], fun xs => by simp [toPy]⟩
        | int _ => exact ⟨by simp [toPy], fun xs => by simp [toPy]⟩
        | str _ => exact ⟨by simp [toPy], fun xs => by simp [toPy]⟩
        | lst _ => exact ⟨by simp [toPy], fun xs => by simp [toPy]⟩
        | _ => cases this
    · obtain ⟨q, hq, rfl⟩ := List.mem_map.mp hp
      have := (okD_dp 20 q.2 q.1 (hm q hq) (e3 q hq)).2.2
      show un + 2 + (toPy q.2).depth < cLine
      omega
    · have es : ((qs.map fun q => (q.1, toPy q.2)).mergeSort (PySem.W.dataLe false (·.2))).map (·.1) = (qs.mergeSort (PySem.W.dataLe false fun q => toPy q.2)).map (·.1) := by
        rw [← List.map_mergeSort (r := PySem.W.dataLe false fun q : V × D => toPy q.2) (f := fun q : V × D => (q.1, toPy q.2)) fun _ _ _ _ => rfl, List.map_map]
        rfl
      have ed : srt (qs.map (·.2)) = (qs.mergeSort (PySem.W.dataLe false fun q => toPy q.2)).map (·.2) := (List.map_mergeSort (r := PySem.W.dataLe false fun q : V × D => toPy q.2) (f := fun q : V × D => q.2) fun _ _ _ _ => rfl).symm
      rw [es]
      rw [ed] at h1
      refine hf.new hh hp (hf.some h1) (Reps.ofQ fun z hz => e3 z ?_) h1
      exact (List.mergeSort_perm _ _).mem_iff.mp hz
  · rw [if_neg hs] at h1
    exact h1.elim
end DL
/-! DL13: enumerate of a list, a tuple, a text. -/
namespace DL
open PySem PySem.Spec L2 PyProof.Rows

section
variable {K : PySem.W.Frag}
theorem en_new {v : Value} {o : Obj} {Hs : Heap → Prop} (B : Begins v o Hs) : Meets (Builtin.«enumerate.__new__» ⟨[.type "enumerate", v], []⟩) (fun _ R s => Hs s.heap ∧
      R (.ok (.ret (.ref (s.heap.push o).objs.size))) { s with heap := (s.heap.push o).push { cls := .type "enumerate", data := .fields #[.none, .bool false, .ref s.heap.objs.size, rawInt 0, .none, .none] } }) :=
  .of_wp fun prog w A R s h => by
    obtain ⟨hp, gg, dd, tk, os⟩ := s
    obtain ⟨hH, h⟩ := h
    have hsub := sub_enumerate
    have it1 : ∀ {A' : Around} {E' : Value → Shared → Prop} {Q' : Value → Shared → Prop}, Q' (.ref hp.objs.size) ⟨hp.push o, gg, dd, tk, os⟩ → wpAny (model prog w) A' (pyIter v) Q' E' ⟨hp, gg, dd, tk, os⟩ := fun q => B.iter prog w _ _ ⟨hp, gg, dd, tk, os⟩ _ hH q
    wp_walk using it1
    refine wpAny_stack_any fun stk => wpAny_pure ?_; split
    · rename_i c _ _ _ _ _
      cases (c == Value.type "enumerate") <;> (wp_walk using it1; exact ⟨_, rfl, h⟩)
    · wp_walk using it1
      exact ⟨_, rfl, h⟩
theorem en_call {prog : Program} {w : World} {A : Around} {E : Value → Shared → Prop} {s : Shared} {v : Value} {o : Obj} {Hs : Heap → Prop} {Q : Value → Shared → Prop} (B : Begins v o Hs) (h1 : Hs s.heap)
    (h : ∀ h', IsEnum h' (s.heap.objs.size + 1) s.heap.objs.size 0 .none → h'.get? s.heap.objs.size = some o → (∀ b o, s.heap.get? b = some o → h'.get? b = some o) → Q (.ref (s.heap.objs.size + 1)) { s with heap := h' }) :
    wpAny (model prog w) A (call (.type "enumerate") [v]) Q E s := by
  refine callType_new F.called_enumerate (by decide) (F.typeCall_enumerate_1 _) (F.newCall_enumerate_1 _) (fun obj => F.args_object_init_2 obj _) F.entry_enumerate_new (en_new B) ⟨h1, ?_⟩
  have hz : (s.heap.push o).objs.size = s.heap.objs.size + 1 := Heap.size_push ..
  show _ ∧ _
  rw [hz]
  have he : IsEnum ((s.heap.push o).push { cls := .type "enumerate", data := .fields #[.none, .bool false, .ref s.heap.objs.size, rawInt 0, .none, .none] }) (s.heap.objs.size + 1) s.heap.objs.size 0 .none := by
    have q := Heap.get?_push_size (s.heap.push o) (o := { cls := .type "enumerate", data := .fields #[.none, .bool false, .ref s.heap.objs.size, rawInt 0, .none, .none] }) rfl
    rw [hz] at q
    exact q
  exact ⟨⟨_, he, rfl⟩, h _ he (Heap.get?_push_of_some _ (Heap.get?_push_size _ B.free)) fun b o' x => Heap.get?_push_of_some _ (Heap.get?_push_of_some _ x)⟩
/-- the values g 0 .. g (n - 1), each in a new pair with its place; they stand by the heap (G) -/
def ItE (G : Hp → Prop) (n : Nat) (g : Nat → Option V) : It :=
  ⟨fun i H => G H ∧ i < n, fun i H v H' => ∃ T x, v = .ref T ∧ H T = none ∧ H' = upd H T (.tup [.int (i : Nat), x]) ∧ g i = some x, fun i H => G H ∧ i = n⟩
/-- what an iterator at it draws where G stands -/
structure DrawV (K : PySem.W.Frag) (G : Hp → Prop) (it : Addr) (n : Nat) (g : Nat → Option V) (Sx : Nat → Heap → Prop) : Prop where
  draws : ∀ (X : Cx) (pins : List (Addr × Obj)) (σ : L2.St) (H : Hp) (s : Shared), X.K = K → X.calm = true → Inv X pins σ H s → G H → ∃ (fp : List Addr) (P : Nat → Value → Prop) (S' : Nat → Heap → Prop), Draws X.prog X.w X.A.in1 it fp n P S' ∧ (∀ i, Sx i s.heap → S' i s.heap) ∧ (∀ i h, S' i h → Sx i h) ∧ (∀ e, e ≠ it → (∃ o, s.heap.get? e = some o ∧ o.cls = .type "enumerate") → e ∉ fp) ∧ ∀ i u, P i u → ∃ x, RelV x u ∧ g i = some x
  obj : ∀ i h, Sx i h → ∃ o, h.get? it = some o ∧ ∀ v, o.data ≠ .cell v
  keep : ∀ i h h', Sx i h → (∀ o, h.get? it = some o → h'.get? it = some o) → Sx i h'
theorem turn_en {P : Program} {w : World} {elts : List Expr} {kk : Nat} {tpos : Pos} {G : Hp → Prop} {e it : Addr} {n : Nat} {g : Nat → Option V} {Sx : Nat → Heap → Prop} (D : DrawV K G it n g Sx) :
    Turn P w K (.Tuple elts kk tpos) (ItE G n g) [e, it] e (fun i h => (∃ old, IsEnum h e it ((i : Nat) : Int) old) ∧ Sx i h ∧ e ≠ it) where
  mem := List.mem_cons_self
  obj := fun i h ⟨⟨old, he⟩, hs, _⟩ b hb => (show b = e ∨ b = it by simpa using hb).elim (fun z => by rw [z]; exact ⟨_, he, fun v q => nomatch q⟩) fun z => by rw [z]; exact D.obj i h hs
  keep := fun i h h' ⟨⟨old, he⟩, hs, hne⟩ k => ⟨⟨old, k e (by simp) _ he⟩, D.keep i h h' hs fun o q => k it (by simp) o q, hne⟩
  item := by
    intro X hP hw hK hc i pins s σ H E I hf st hg
    obtain ⟨⟨old, he⟩, hs, hne⟩ := st
    obtain ⟨fp, Pv, S', dr, to, from', nf, pv⟩ := D.draws X pins σ H s hK hc I hg.1
    subst hP hw hK
    have hel : e < s.heap.objs.size := Heap.lt_size he
    have hil : it < s.heap.objs.size := by obtain ⟨o, q, _⟩ := D.obj i _ hs; exact Heap.lt_size q
    refine wpAny_pyNext_enum_itemD dr he (to i hs) hg.2 hne (nf e hne ⟨_, he, rfl⟩) fun u h' tk hu ho hs' hT hsz hk => ⟨_, rfl, ?_⟩
    obtain ⟨x, ru, hx⟩ := pv i u hu
    refine wpAny_letOwnedTupleGo_enum (s := { s with heap := h', toks := tk + 1 }) ho fun h2 he' sb => ?_
    have hT2 : h2.get? s.heap.objs.size = some { cls := .type "tuple", data := .seq #[.int i tk, u] } := (sb.2 _ (Nat.ne_of_gt hel)).trans hT
    have I1 : Inv X pins σ (upd H s.heap.objs.size (.tup [.int (i : Nat), x])) { s with heap := h2, toks := tk + 1 } :=
      I.turnedNew (ch := [e, it]) (fun b ob hb q => (sb.2 b (fun z => hb (by simp [z]))).trans (hk b ob (fun z => hb (by simp [z])) (fun z => hb (by simp [z])) q)) hf (Nat.le_refl _) ⟨by show 2 ≤ sizeLine; decide, [.int i tk, u], .cons ⟨_, rfl⟩ (.cons ru .nil), ⟨_, hT2, rfl, _, rfl⟩⟩
    refine ⟨.ref s.heap.objs.size, _, I1, rfl, ⟨_, x, rfl, I.hok.fresh (Nat.le_refl _), rfl, hx⟩, ⟨⟨u, ?_⟩, D.keep _ _ _ (from' _ _ hs') fun o q => (sb.2 it (Ne.symm hne)).trans q, hne⟩, fun b hb => ?_⟩
    · rw [show ((i + 1 : Nat) : Int) = (i : Int) + 1 by omega]; exact he'
    · rw [upd_ne (Nat.ne_of_lt ((show b = e ∨ b = it by simpa using hb).elim (fun z => by rw [z]; exact hel) fun z => by rw [z]; exact hil))]
      exact (hf b hb).1
  done := by
    intro X hP hw hK hc i pins s σ H E I hf st hg
    obtain ⟨⟨old, he⟩, hs, hne⟩ := st
    obtain ⟨fp, Pv, S', dr, to, from', nf, pv⟩ := D.draws X pins σ H s hK hc I hg.1
    subst hP hw hK
    have hin : i = n := hg.2
    obtain ⟨f0, f1, f2, f3, f4, f5⟩ := hf it (by simp)
    exact wpAny_pyNext_enum_endD dr he (by rw [← hin]; exact to i hs) fun h' eb => ⟨rfl, I.turned (t' := s.toks) (fun b o hb q => eb b o hb q) f0 f1 f3 f4 f5⟩
  self := fun A i s Q E st h => let ⟨⟨_, he⟩, _⟩ := st; wpAny_pyIter_enum he h
/-! ### what is drawn of a list, a tuple, a text -/
theorem vals_back {vs : List V} {us : List Value} (r : Vals vs us) {i : Nat} {u : Value} (h : us[i]? = some u) : ∃ x, RelV x u ∧ vs[i]? = some x := by
  have hi : i < vs.length := by rw [r.length]; exact (List.getElem?_eq_some_iff.mp h).1
  obtain ⟨u', h1, h2⟩ := r.get (List.getElem?_eq_getElem hi)
  rw [h] at h1
  cases h1
  exact ⟨_, h2, List.getElem?_eq_getElem hi⟩
theorem draw_list {a it : Addr} (hne : a ≠ it) {vs : List V} : DrawV K (fun H => SqL K H a vs) it vs.length (fun i => vs[i]?) (fun i h => h.IsListIter it a i) where
  draws := fun X pins σ H s hK hc I hq => by
    subst hK
    obtain ⟨its, rv, pl, hz⟩ := I.list hq
    rw [rv.length]
    refine ⟨[it, a], _, fun i h => h.IsListIter it a i ∧ h.IsList a its.toArray, by simpa using Draws.list (A := X.A.in1) (I.ok.hd hc) it a hne its.toArray, fun i st => ⟨st, pl.isList⟩, fun i h st => st.1, fun e he ⟨o, ho, hcl⟩ hm => ?_, fun i u hu => vals_back rv (by simpa using hu)⟩
    have hm' : e = it ∨ e = a := by simpa using hm
    rcases hm' with z | z
    · exact he z
    · subst z
      obtain ⟨o', ho', hc', _⟩ := pl.isList
      rw [ho] at ho'
      cases ho'
      rw [hcl] at hc'
      exact absurd hc' (by decide)
  obj := fun i h ⟨o, e, c, d⟩ => ⟨o, e, fun v z => by rw [d] at z; cases z⟩
  keep := fun i h h' st k => st.at fun o e => k o e
theorem draw_tup {a it : Addr} (hne : a ≠ it) {vs : List V} : DrawV K (fun H => SqT K H a vs) it vs.length (fun i => vs[i]?) (fun i h => h.IsTupleIter it a i) where
  draws := fun X pins σ H s hK hc I hq => by
    subst hK
    obtain ⟨its, rv, pl, hz⟩ := I.tuple hq
    rw [rv.length]
    refine ⟨[it, a], _, fun i h => h.IsTupleIter it a i ∧ h.IsTuple a its.toArray, by simpa using Draws.tuple (A := X.A.in1) (I.ok.hd hc) it a hne its.toArray, fun i st => ⟨st, pl⟩, fun i h st => st.1, fun e he ⟨o, ho, hcl⟩ hm => ?_, fun i u hu => vals_back rv (by simpa using hu)⟩
    have hm' : e = it ∨ e = a := by simpa using hm
    rcases hm' with z | z
    · exact he z
    · subst z
      obtain ⟨o', ho', hc', _⟩ := pl
      rw [ho] at ho'
      cases ho'
      rw [hcl] at hc'
      exact absurd hc' (by decide)
  obj := fun i h ⟨o, e, c, d⟩ => ⟨o, e, fun v z => by rw [d] at z; cases z⟩
  keep := fun i h h' st k => st.at fun o e => k o e
theorem draw_str {it : Addr} {x : Str} {t : Tok} : DrawV K (fun _ => True) it x.cps.size (fun i => (x.cps[i]?).map fun c => V.str ⟨#[c]⟩) (fun i h => h.IsStrIter it (strIterType x) x t i) where
  draws := fun X pins σ H s hK hc I hq => by
    refine ⟨[it], _, _, Draws.text (A := X.A.in1) (I.ok.hd hc) it x t, fun i st => st, fun i h st => st, fun e he _ hm => he (by simpa using hm), fun i u ⟨c, tk, h1, h2⟩ => ⟨.str ⟨#[c]⟩, ?_, by rw [h1]; rfl⟩⟩
    subst h2
    exact ⟨tk, rfl⟩
  obj := fun i h ⟨o, e, c, d⟩ => ⟨o, e, fun v z => by rw [d] at z; cases z⟩
  keep := fun i h h' ⟨o, e, r⟩ k => ⟨o, k o e, r⟩
/-! ### for i, x in enumerate(e) -/
/-- the pairs -/
def enD (i : Nat) : List D → List D
  | [] => []
  | d :: ds => .tup [.int (i : Nat), d] :: enD (i + 1) ds
theorem enD_len : ∀ (ds : List D) (i : Nat), (enD i ds).length = ds.length
  | [], _ => rfl
  | d :: ds, i => by show (enD (i + 1) ds).length + 1 = _; rw [enD_len ds]; rfl
theorem enD_at : ∀ {ds : List D} {j i : Nat} {p : D}, (enD j ds)[i]? = some p → ∃ d, ds[i]? = some d ∧ p = .tup [.int ((j + i : Nat) : Int), d]
  | [], _, _, _, h => by simp [enD] at h
  | d :: ds, j, 0, p, h => by
    have h' : some (D.tup [.int (j : Nat), d]) = some p := h
    cases h'
    exact ⟨d, rfl, rfl⟩
  | d :: ds, j, i + 1, p, h => by
    have h' : (enD (j + 1) ds)[i]? = some p := h
    obtain ⟨d', h1, h2⟩ := enD_at h'
    exact ⟨d', h1, by rw [h2, show j + 1 + i = j + (i + 1) by omega]⟩
theorem walks_en {G : Hp → Prop} {g : Nat → Option V} {ds : List D} {W : Wd} {H : Hp} (hG : ∀ (W' : Wd) (H' : Hp), Ext W W' H H' → G H') (hg : ∀ (W' : Wd) (H' : Hp), Ext W W' H H' → ∀ (i : Nat) (d : D) (x : V), ds[i]? = some d → g i = some x → Rep K W' H' x d) : Walks K (ItE G ds.length g) (enD 0 ds) W H := by
  intro W1 H1 st e hh
  refine ⟨⟨hG W1 H1 e, by rw [enD_len]⟩, fun i p hp => ?_⟩
  obtain ⟨d, hd, rfl⟩ := enD_at hp
  refine ⟨⟨hG W1 H1 e, (List.getElem?_eq_some_iff.mp hd).1⟩, fun x H' ⟨T, y, e1, e2, e3, e4⟩ => ?_⟩
  subst e1 e3
  have ry := hg W1 H1 e i d y hd e4
  refine ⟨W1, Ext.new1 e2, hh.new1 e2, Rep.newT hh e2 (vs := [.int (i : Nat), y]) ⟨_, _, rfl, by rw [Nat.zero_add]; rfl, _, _, rfl, ry, rfl⟩ (by simp)⟩
end
section
variable {X : Cx} {E : St → XK} {σd : List Sl} {e : Expr} {me : M D} {p pos tpos : Pos} {elts : List Expr} {kk : Nat}
/-- any that is walked: what it is walked as -/
def EnQ (K : PySem.W.Frag) (R : It → Hp → Prop) (us : List V) (H1 : Hp) : Prop := ∃ x, us = [x] ∧ ((∃ a vs, x = .ref a ∧ SqL K H1 a vs ∧ R (ItE (fun H => SqL K H a vs) vs.length fun i => vs[i]?) H1) ∨ (∃ a vs, x = .ref a ∧ SqT K H1 a vs ∧ R (ItE (fun H => SqT K H a vs) vs.length fun i => vs[i]?) H1) ∨
  ∃ z : Str, x = .str z ∧ R (ItE (fun _ => True) z.cps.size fun i => (z.cps[i]?).map fun c => V.str ⟨#[c]⟩) H1)
def iEn (K : PySem.W.Frag) (ta : TA) : TI := fun σ H R => ta σ H (EnQ K R)
theorem pi_en {ta : TA} (hg : Gl X "enumerate") (hm : X.mg "enumerate" = none) (he : PA X [e] ta) (hs : starEach [e] X.env = [(false, eval e X.env)]) : PI X (.Tuple elts kk tpos) (.Call (.Name "enumerate" p) [e] [] pos) (iEn X.K ta) := by
  refine ⟨fun pins s σ H R I h => Call_ (ld_blt I hg hm boot_enumerate (PyProof.Rows.callWith_type1 (thn (he.run pos pins s σ H _ I h) fun us s1 ⟨vs, H1, I1, r1, q1⟩ => ?_) hs rfl))⟩
  obtain ⟨x, rfl, q⟩ := q1
  obtain ⟨u, rfl, rx⟩ := vals1 r1
  have fp : ∀ (h' : Heap), (∀ b o, s1.heap.get? b = some o → h'.get? b = some o) → ∀ b ∈ [s1.heap.objs.size + 1, s1.heap.objs.size], FpOk X pins H1 b := fun h' hk b hb => by
    have hle : s1.heap.objs.size ≤ b := (show b = s1.heap.objs.size + 1 ∨ b = s1.heap.objs.size by simpa using hb).elim (fun z => by rw [z]; exact Nat.le_add_right _ _) fun z => by rw [z]; exact Nat.le_refl _
    exact I1.fpOk hle (I1.hok.fresh hle)
  rcases q with ⟨a, vs, rfl, hq, q⟩ | ⟨a, vs, rfl, hq, q⟩ | ⟨z, rfl, q⟩
  · cases rx
    obtain ⟨its, rv, pl, hz⟩ := I1.list hq
    have hal : a < s1.heap.objs.size := by obtain ⟨o, ho, _⟩ := pl.isList; exact Heap.lt_size ho
    refine en_call (begins_list a its.toArray) pl.isList fun h' hen hit hk => wpAny_pyIter_enum hen ?_
    have I2 : Inv X pins σ H1 { s1 with heap := h' } := I1.kept (t' := s1.toks) hk
    exact ⟨s1.heap.objs.size + 1, _, _, _, H1, rfl, I2, turn_en (draw_list (Nat.ne_of_lt hal)), ⟨⟨.none, hen⟩, ⟨_, hit, rfl, rfl⟩, Nat.succ_ne_self _⟩, fp h' hk, q⟩
  · cases rx
    obtain ⟨its, rv, pl, hz⟩ := I1.tuple hq
    have hal : a < s1.heap.objs.size := by obtain ⟨o, ho, _⟩ := pl; exact Heap.lt_size ho
    refine en_call (begins_tuple a its.toArray) pl fun h' hen hit hk => wpAny_pyIter_enum hen ?_
    have I2 : Inv X pins σ H1 { s1 with heap := h' } := I1.kept (t' := s1.toks) hk
    exact ⟨s1.heap.objs.size + 1, _, _, _, H1, rfl, I2, turn_en (draw_tup (Nat.ne_of_lt hal)), ⟨⟨.none, hen⟩, ⟨_, hit, rfl, rfl⟩, Nat.succ_ne_self _⟩, fp h' hk, q⟩
  · obtain ⟨t, rfl⟩ := rx
    refine en_call (begins_text z t) trivial fun h' hen hit hk => wpAny_pyIter_enum hen ?_
    have I2 : Inv X pins σ H1 { s1 with heap := h' } := I1.kept (t' := s1.toks) hk
    exact ⟨s1.heap.objs.size + 1, _, _, _, H1, rfl, I2, turn_en draw_str, ⟨⟨.none, hen⟩, ⟨_, hit, rfl, rfl⟩, Nat.succ_ne_self _⟩, fp h' hk, q⟩
def enW (d : D) : M (List D) := asW d >>= fun ds => pure (enD 0 ds)
/-- enumerate(e): e a list, a tuple, a text -/
theorem di_en (hg : Gl X "enumerate") (hm : X.mg "enumerate" = none) (he : DE X E σd e me) (hs : starEach [e] X.env = [(false, eval e X.env)]) : DI X E σd (.Tuple elts kk tpos) (.Call (.Name "enumerate" p) [e] [] pos) (me >>= enW) := by
  refine ⟨pi_imp (pi_en hg hm (pa_cons he.pe pa_nil hs) hs) fun σ H R ⟨W, st, hh, hs, h⟩ => tD_run hh hs h fun d v W1 H1 st1 e1 hh1 hs1 r1 h1 => ?_⟩
  refine ⟨v, rfl, ?_⟩
  cases d with
  | lst xs =>
    have h2 := After.pure' (a := enD 0 xs) h1 hh1
    obtain ⟨a, vs, rfl, nu, ha, hz, r⟩ := r1
    refine .inl ⟨a, vs, rfl, SqL.of ha, ?_⟩
    rw [r.length]
    exact h2 (by rw [enD_len]; exact hz) _ (walks_en (fun W' H' e' => SqL.of (e'.at nu ha).2) fun W' H' e' i d x q1 q2 => by
      obtain ⟨y, q3, q4⟩ := (r.ext e').get q1
      rw [q2] at q3
      cases q3
      exact q4)
  | tup xs =>
    have h2 := After.pure' (a := enD 0 xs) h1 hh1
    obtain ⟨a, vs, rfl, ha, hz, r⟩ := r1
    have sq : ∀ (W' : Wd) (H' : Hp), Ext W1 W' H1 H' → SqT X.K H' a vs := fun W' H' e' => by
      rcases ha with ⟨nu, ha⟩ | ha
      · exact SqT.of (e'.at nu ha).2
      · rcases ha with ha | ha
        · rcases ha with ha | ⟨o, ha⟩ <;> cases ha
        · exact .inr ha
    refine .inr (.inl ⟨a, vs, rfl, sq W1 H1 Ext.refl, ?_⟩)
    rw [r.length]
    exact h2 (by rw [enD_len]; exact hz) _ (walks_en sq fun W' H' e' i d x q1 q2 => by
      obtain ⟨y, q3, q4⟩ := (r.ext e').get q1
      rw [q2] at q3
      cases q3
      exact q4)
  | str cs =>
    have h2 := After.pure' (a := enD 0 (cs.map fun c => D.str [c])) h1 hh1
    obtain ⟨rfl, ho⟩ := r1
    refine .inr (.inr ⟨mkS cs, rfl, ?_⟩)
    have e0 : (mkS cs).cps.size = (cs.map fun c => D.str [c]).length := by simp
    rw [e0]
    refine h2 (by rw [enD_len, List.length_map]; exact (sOk_iff.mp ho).1) _ (walks_en (fun _ _ _ => trivial) fun W' H' e' i d x q1 q2 => ?_)
    rw [List.getElem?_map] at q1
    have e1 : (mkS cs).cps[i]? = cs[i]? := by simp
    rw [e1] at q2
    cases q : cs[i]? with
    | none => rw [q] at q1; cases q1
    | some c =>
      rw [q] at q1 q2
      cases q1
      cases q2
      exact ⟨rfl, sOk_iff.mpr ⟨by simp, fun c' hc' => by
        rw [List.mem_singleton.mp hc']
        exact (sOk_iff.mp ho).2 c (List.mem_of_getElem? q)⟩⟩
  | _ => exact h1.elim
end
end DL
namespace DL
open PySem PySem.Spec L2 PyProof.Rows
section
variable {X : Cx} {E : St → XK} {σd : List Sl} {e : Expr} {me : M D} {pos p1 p2 p3 : Pos} {k : Nat}
/-- e[::-1], a list -/
def dRevL (fin : List D → M D) (d : D) : M D := asLL d >>= fun xs => fin xs.reverse
theorem de_revL {fin : List D → M D} (hf : FinOk X.K fin) (he : DE X E σd e me) : DE X E σd (.Subscript e (.Slice none none (some (.UnaryOp .USub (.Constant (.int 1) k p1) p2)) p3) pos) (me >>= dRevL fin) :=
  ⟨pe_imp (pe_revL he.pe) fun σ H Q ⟨W, st, hh, hs, h⟩ => tD_run hh hs h fun d v W1 H1 st1 e1 hh1 hs1 r1 h1 => by
    obtain ⟨a, vs, xs, rfl, hq, hz, r, h2⟩ := asLL_run hh1 r1 h1
    exact ⟨a, vs, rfl, hq, fun p hp => hf.new hh1 hp (by rw [List.length_reverse]; exact hz) r.reverse h2⟩⟩
end
end DL
/-! DL14: what the derivations name; pairs of names set at once. -/
namespace DL
open PySem PySem.Spec L2 PyProof.Rows

def visC (sc : Scope) (x : Str) : Bool := match sc.names.lookup x with
  | some .local => true
  | some .cell => true
  | some .free => true
  | _ => false
theorem visB {sc : Scope} {x : Str} (h : visC sc x = true) : Vis sc x := by
  unfold visC at h
  unfold Vis
  split at h
  · exact .inl (by assumption)
  · exact .inr (.inl (by assumption))
  · exact .inr (.inr (by assumption))
  · cases h
def locC (sc : Scope) (x : Str) : Bool := match sc.names.lookup x with
  | some .local => true
  | some .cell => true
  | _ => false
theorem locB {sc : Scope} {x : Str} (h : locC sc x = true) : L2.Loc sc x := by
  unfold locC at h
  unfold L2.Loc
  split at h
  · exact .inl (by assumption)
  · exact .inr (by assumption)
  · cases h
theorem hu65 {k : Nat} {A : Around} (r : Room k A) : A.units + 65 < cLine := by
  have := r.un
  omega
theorem hu64 {k : Nat} {A : Around} (r : Room k A) : A.units + 64 < cLine := by
  have := r.un
  omega
section
variable {X : Cx} {E : XK} {σd : List Sl} {N T : Type} {eN : N → List Sl} {eT : T → List Sl} {ss : List Stmt} {pos px py pt pt2 : Pos} {a b : Expr} {ma mb : M D} {x y : Str}
/-- x, y = a, b: plain names -/
theorem db_par {kt k2 : Nat} {mr : D → D → M (Fl N T)} (i j : Nat) (ha : DE X (fun _ => E) σd a ma) (hb : DE X (fun _ => E) σd b mb) (hc : X.calm = true) (hN : X.N.Nodup) (hi : X.N[i]? = some x) (hj : X.N[j]? = some y) (hij : i ≠ j)
    (hx : X.env.scope.names.lookup x = some .local) (hy : X.env.scope.names.lookup y = some .local) (s1 : starEach [a, b] X.env = (false, eval a X.env) :: starEach [b] X.env) (s2 : starEach [b] X.env = (false, eval b X.env) :: starEach [] X.env)
    (hw : swappedStores [.Tuple [.Name x px, .Name y py] kt pt] (.Tuple [a, b] k2 pt2) X.env = pure (some [x, y])) (hs : swapsWithSole [.Tuple [.Name x px, .Name y py] kt pt] (.Tuple [a, b] k2 pt2) pos.line X.env = pure false)
    (hr : ∀ d e, DB X E ((σd.set i (.val d)).set j (.val e)) ss eN eT (mr d e)) :
    DB X E σd (.Assign [.Tuple [.Name x px, .Name y py] kt pt] (.Tuple [a, b] k2 pt2) pos :: ss) eN eT (ma >>= fun d => mb >>= fun e => mr d e) :=
  ⟨pss_imp (pss_cons (ps_par (i := i) (j := j) hc hN hi hj hij hx hy (pa_cons ha.pe (pa_cons hb.pe pa_nil s2) s1) hw hs) (pss_ex fun q : D × D => (hr q.1 q.2).pss)) fun Dn σ H ⟨W, st, hh, hs, h⟩ =>
    tD_run (E := fun _ => E) hh hs h fun d v W1 H1 st1 e1 hh1 hs1 r1 h1 => tD_run (E := fun _ => E) hh1 hs1 h1 fun d2 v2 W2 H2 st2 e2 hh2 hs2 r2 h2 => ⟨v, v2, rfl, (d, d2), W2, st2, hh2, (hs2.put i (r1.ext e2)).put j r2, h2⟩⟩
end
end DL
namespace DL
open PySem PySem.Spec L2 PyProof.Rows
section
variable {X : Cx} {E : XK} {σd : List Sl} {N T : Type} {eN : N → List Sl} {eT : T → List Sl} {ss : List Stmt} {pos : Pos} {tg e : Expr} {me : M D}
/-- target = e, the target taken apart -/
theorem db_asg {Pp : Type} {dec : D → Option Pp} {up : Pp → List Sl → List Sl} {g : TG} {ix : List Nat} {mr : Pp → M (Fl N T)} (he : DE X (fun _ => E) σd e me) (hg : GOk X.K g ix dec up) (hp : PG X tg g) (hs : swapsWithSole [tg] e pos.line X.env = pure false) (hw : swappedStores [tg] e X.env = pure none)
    (h1 : (assignEach [tg] X.env).map (·.2) = [assign tg X.env]) (hr : ∀ p, DB X E (up p σd) ss eN eT (mr p)) : DB X E σd (.Assign [tg] e pos :: ss) eN eT (me >>= fun d => ofO (dec d) >>= fun p => mr p) :=
  ⟨pss_imp (pss_cons (ps_asg he.pe hp hs hw h1) (pss_ex fun p => (hr p).pss)) fun Dn σ H ⟨W, st, hh, hs, h⟩ =>
    tD_run (E := fun _ => E) hh hs h fun d v W1 H1 st1 e1 hh1 hs1 r1 h1 => by
      obtain ⟨p, q, h2⟩ := ofO_run h1
      exact hg.run W1 H1 st1 σd σ d v p _ hh1 hs1 r1 q fun σ' hs' _ => ⟨p, W1, st1, hh1, hs', h2⟩⟩
end
end DL
set_option maxHeartbeats 2000000
/-! DH1: while an exception is handled: a list, a tuple to its end. -/
namespace DH
open PySem PySem.Spec PyProof.Rows L2 HotX

section
variable {prog : Program} {w : World} {A : Around} {E : Value → Shared → Prop} {s : Shared}
/-- the iterator is not the exception -/
theorem it_ne {h : Heap} {it x1 : Addr} {o o1 : Obj} {a b : Value} {vs1 : Array Value} (ho : h.get? it = some o) (hd : o.data = .fields #[a, b]) (h1 : h.get? x1 = some o1) (d1 : o1.data = .fields vs1) (c1 : vs1[2]? = some .none) : x1 ≠ it := fun e => by
  subst e
  rw [ho] at h1
  cases h1
  rw [hd] at d1
  cases d1
  simp at c1
theorem list_end_hot {it l x1 : Addr} {i : Nat} {items : Array Value} {Q : Option Value → Shared → Prop} (hot : HotAt A x1 s.heap) (hit : s.heap.IsListIter it l i) (hl : s.heap.IsList l items) (hx : items[i]? = none)
    (hQ : ∀ h', Heap.ExtBut it s.heap h' → Q none { s with heap := h' }) : wpAny (model prog w) A (pyNext (.ref it)) Q E s := by
  obtain ⟨o, ho, hc, hd⟩ := id hit
  obtain ⟨ol, hol, _, nl, hdl⟩ := hl
  obtain ⟨hh, o1, vs1, h1, d1, c1⟩ := hot
  have ne := it_ne ho hd h1 d1 c1
  unfold pyNext
  refine wpAny_bind (wpAny_attempt (wpAny_callSpecial?_slot (name := Str.ofString "__next__") hit.typeIs slot_listiter_next (wpAny_call_entry slot_listiter_next hit.typeIs entry_listiter_next ?_ (args_listiter_next _))))
  show wpAny _ _ (field (.ref it) 0 >>= _) _ _ s
  refine wpAny_bind (wpAny_field ho hd (x := .ref l) rfl ?_)
  show wpAny _ _ (if (Value.ref l == Value.none) = true then _ else _) _ _ s
  rw [if_neg (show ¬ ((Value.ref l == Value.none) = true) from Bool.false_ne_true)]; show wpAny _ _ (field (.ref it) 1 >>= _) _ _ s
  refine wpAny_bind (wpAny_field ho hd (x := .int i 0) rfl ?_); show wpAny _ _ (seqItems? (.ref l) >>= _) _ _ s
  refine wpAny_bind (wpAny_seqItems hol hdl ?_); simp only [Int.toNat_natCast, hx]
  refine wpAny_bind (wpAny_rule (wpAny_bind (wpAny_setField ho hd (by simp) ?_))); show wpAny _ _ (newExc (.type "StopIteration") [] >>= _) _ _ _
  refine wpAny_bind ?_; simp only [newExc, newTuple]; refine wpAny_bind (wpAny_newObj_type ?_ (by size_fits))
  refine wpAny_bind (m := firstArgMember _ _) (wpAny_of_eq (a := Value.none) (by first | rfl | (simp only [firstArgMember]; rfl)) ?_); refine wpAny_newObj_type ?_ (by size_fits)
  have h1u := (Heap.get?_update_other (a := it) s.heap (Obj.mapFields (·.setIfInBounds 0 .none)) (Ne.symm ne)).trans h1
  refine raiseNew_hot ⟨hh, o1, vs1, Heap.get?_push_of_some _ (Heap.get?_push_of_some _ h1u), d1, c1⟩ (Nat.ne_of_lt (Heap.lt_size (Heap.get?_push_of_some _ h1u))) (Heap.get?_push_size _ rfl) rfl (by first | (simp; done) | (simp; omega) | (simp only [Array.size_append]; simp; omega)) ?_
  refine wpAny_bind (wpAny_isInstance (T := "StopIteration") (b := true) ⟨_, Heap.get?_update_self _ (Heap.get?_push_size _ rfl) rfl, rfl⟩ isSubtype_stop ?_)
  refine wpAny_pure (hQ _ fun b o2 hb e => ?_)
  have e2 := (Heap.get?_update_other (a := it) s.heap (Obj.mapFields (·.setIfInBounds 0 .none)) (Ne.symm hb)).trans e
  rw [Heap.get?_update_other _ _ (Nat.ne_of_gt (Heap.lt_size (Heap.get?_push_of_some _ e2)))]
  exact Heap.get?_push_of_some _ (Heap.get?_push_of_some _ e2)
theorem tup_end_hot {it t x1 : Addr} {i : Nat} {items : Array Value} {Q : Option Value → Shared → Prop} (hot : HotAt A x1 s.heap) (hit : IsTupIter s.heap it t i) (hl : IsTup s.heap t items) (hx : items[i]? = none)
    (hQ : ∀ h', Heap.ExtBut it s.heap h' → Q none { s with heap := h' }) : wpAny (model prog w) A (pyNext (.ref it)) Q E s := by
  obtain ⟨o, ho, hc, hd⟩ := id hit
  obtain ⟨ol, hol, _, nl, hdl⟩ := hl
  obtain ⟨hh, o1, vs1, h1, d1, c1⟩ := hot
  have ne := it_ne ho hd h1 d1 c1
  unfold pyNext
  refine wpAny_bind (wpAny_attempt (wpAny_callSpecial?_slot (name := Str.ofString "__next__") hit.typeIs slot_tupleiter_next (wpAny_call_entry slot_tupleiter_next hit.typeIs entry_tupleiter_next ?_ (args_tupleiter_next _))))
  show wpAny _ _ (field (.ref it) 0 >>= _) _ _ s
  refine wpAny_bind (wpAny_field ho hd (x := .ref t) rfl ?_)
  show wpAny _ _ (if (Value.ref t == Value.none) = true then _ else _) _ _ s
  rw [if_neg (show ¬ ((Value.ref t == Value.none) = true) from Bool.false_ne_true)]; show wpAny _ _ (field (.ref it) 1 >>= _) _ _ s
  refine wpAny_bind (wpAny_field ho hd (x := .int i 0) rfl ?_); show wpAny _ _ (seqItems? (.ref t) >>= _) _ _ s
  refine wpAny_bind (wpAny_seqItems hol hdl ?_); simp only [Int.toNat_natCast, hx]
  refine wpAny_bind (wpAny_rule (wpAny_bind (wpAny_setField ho hd (by simp) ?_))); show wpAny _ _ (newExc (.type "StopIteration") [] >>= _) _ _ _
  refine wpAny_bind ?_; simp only [newExc, newTuple]; refine wpAny_bind (wpAny_newObj_type ?_ (by size_fits))
  refine wpAny_bind (m := firstArgMember _ _) (wpAny_of_eq (a := Value.none) (by first | rfl | (simp only [firstArgMember]; rfl)) ?_); refine wpAny_newObj_type ?_ (by size_fits)
  have h1u := (Heap.get?_update_other (a := it) s.heap (Obj.mapFields (·.setIfInBounds 0 .none)) (Ne.symm ne)).trans h1
  refine raiseNew_hot ⟨hh, o1, vs1, Heap.get?_push_of_some _ (Heap.get?_push_of_some _ h1u), d1, c1⟩ (Nat.ne_of_lt (Heap.lt_size (Heap.get?_push_of_some _ h1u))) (Heap.get?_push_size _ rfl) rfl (by first | (simp; done) | (simp; omega) | (simp only [Array.size_append]; simp; omega)) ?_
  refine wpAny_bind (wpAny_isInstance (T := "StopIteration") (b := true) ⟨_, Heap.get?_update_self _ (Heap.get?_push_size _ rfl) rfl, rfl⟩ isSubtype_stop ?_)
  refine wpAny_pure (hQ _ fun b o2 hb e => ?_)
  have e2 := (Heap.get?_update_other (a := it) s.heap (Obj.mapFields (·.setIfInBounds 0 .none)) (Ne.symm hb)).trans e
  rw [Heap.get?_update_other _ _ (Nat.ne_of_gt (Heap.lt_size (Heap.get?_push_of_some _ e2)))]
  exact Heap.get?_push_of_some _ (Heap.get?_push_of_some _ e2)
theorem HotAt.keep {x1 : Addr} {h h' : Heap} (hot : HotAt A x1 h) (k : ∀ o, h.get? x1 = some o → h'.get? x1 = some o) : HotAt A x1 h' := by
  obtain ⟨hh, o1, vs1, h1, d1, c1⟩ := hot
  exact ⟨hh, o1, vs1, k _ h1, d1, c1⟩
theorem unpack_hot {t x1 : Addr} {items : Array Value} {Q : List Value → Shared → Prop} (hot : HotAt A x1 s.heap) (ht : IsTup s.heap t items)
    (hQ : ∀ h', Heap.ExtBut s.heap.objs.size s.heap h' → Q items.toList { s with heap := h' }) : wpAny (model prog w) A (unpackItems (.ref t) items.size none) Q E s := by
  have hlt : t ≠ s.heap.objs.size := by obtain ⟨o, ho, _⟩ := ht; exact Nat.ne_of_lt (Heap.lt_size ho)
  have hx1 : x1 ≠ s.heap.objs.size := by obtain ⟨_, o, _, ho, _⟩ := hot; exact Nat.ne_of_lt (Heap.lt_size ho)
  unfold unpackItems
  refine wpAny_bind ?_
  unfold notIterableAtAll
  refine wpAny_bind (wpAny_specialOf ht.typeIs slot_tuple_iter.lookup (wpAny_pure ?_)); simp only [Bool.false_eq_true, if_false]
  refine wpAny_bind (wpAny_holding (iter_tuple ht (wpAny_bind (wpAny_holding (draw_tuple hlt items.size 0 _ _ ⟨_, Heap.get?_push_size _ rfl, rfl, rfl⟩ (ht.push _) (by omega) fun h₁ hit₁ hs₁ => ?_)))))
  rw [show List.take items.size (List.drop 0 items.toList) = items.toList by rw [List.drop_zero]; exact List.take_of_length_le (by simp), if_neg (by simp)]
  have ht₁ : IsTup h₁ t items := (ht.push _).extBut hs₁.extBut hlt
  refine wpAny_bind (wpAny_holding (tup_end_hot (HotAt.keep hot fun o e => hs₁.extBut x1 o hx1 (Heap.get?_push_of_some _ e)) hit₁ ht₁ (by simp) fun h₂ he₂ => ?_)); simp only [Option.isSome_none, Bool.false_eq_true, if_false]
  exact wpAny_pure (hQ h₂ fun b o hb e => he₂ b o hb (hs₁.extBut b o hb (Heap.get?_push_of_some _ e)))
theorem assign_tup_hot {env : Env} {elts : List Expr} {k : Nat} {pos : Pos} {t x1 : Addr} {items : Array Value} {Q : Unit → Shared → Prop} (hot : HotAt A x1 s.heap) (ht : IsTup s.heap t items) (hn : (assignEach elts env).length = items.size) (hstar : (assignEach elts env).findIdx? (·.1) = none)
    (h : ∀ h', Heap.ExtBut s.heap.objs.size s.heap h' → wpAny (model prog w) A (assignInOrder ((assignEach elts env).map (·.2)) items.toList) Q E { s with heap := h' }) : wpAny (model prog w) A (assign (.Tuple elts k pos) env (.ref t)) Q E s := by
  rw [assign_Tuple]
  refine wpAny_bind (wpAny_standAt ?_)
  unfold unpack
  rw [hn, hstar]
  exact wpAny_bind (wpAny_holding (unpack_hot hot ht h))
end
/-! ### the rules of the layer -/
section
variable {X : Cx}
/-- the handled exception p stands where the pins do -/
theorem hotI {pins : List (Addr × Obj)} {σ : L2.St} {H : Hp} {s : Shared} {p : Addr × Obj} (h : L2H.Hot1 X.A p) (hp : p ∈ X.pn ++ pins) (I : Inv X pins σ H s) : HotAt X.A p.1 s.heap := by
  obtain ⟨hh, v1, e1, c1⟩ := h
  exact ⟨hh, p.2, v1, (I.pin p hp).1, e1, c1⟩
/-- (a, b, ..) = a tuple, while p is handled and pinned -/
def PGp (X : Cx) (p : Addr × Obj) (tg : Expr) (t : TG) : Prop := ∀ (pins : List (Addr × Obj)) (s : Shared) (σ : L2.St) (H : Hp) (v : V) (u : Value) (Q : L2.St → Hp → Prop), p ∈ X.pn ++ pins → Inv X pins σ H s → RelV v u → t v σ H Q →
  wpAny (model X.prog X.w) X.A (assign tg X.env u) (fun _ s' => ∃ σ' H', Inv X pins σ' H' s' ∧ Q σ' H') X.xe s
theorem pgp_tup {es : List Expr} {k : Nat} {t : TGs} {n : Nat} {pos : Pos} {p : Addr × Obj} (hot : L2H.Hot1 X.A p) (h : PGs X es t) (hn : (assignEach es X.env).length = n) (hst : (assignEach es X.env).findIdx? (·.1) = none) : PGp X p (.Tuple es k pos) (gTup X.K n t) := by
  intro pins s σ H v u Q hp I r hw
  obtain ⟨a, xs, e1, hq, hl, hw⟩ := hw
  subst e1
  cases r
  obtain ⟨its, rv, ht, hz⟩ := I.tuple hq
  refine assign_tup_hot (hotI hot hp I) ht (by simp [hn, ← hl, rv.length]) hst fun h' hx => ?_
  have I1 : Inv X pins σ H { s with heap := h' } := I.kept (t' := s.toks) fun b o e => hx b o (Nat.ne_of_lt (Heap.lt_size e)) e
  exact h.run pins _ σ H xs _ Q I1 (by simpa using rv) hw
end
end DH
set_option maxHeartbeats 2000000
/-! DH2: a list comprehension over a list, while the exception p is handled. -/
namespace DH
open PySem PySem.Spec PyProof.Rows L2 HotX

/-- one turn of an iterator, while p is handled and pinned -/
structure TurnP (p : Addr × Obj) (P : Program) (w : World) (K : PySem.W.Frag) (tg : Expr) (J : It) (fp : List Addr) (it : Addr) (tn : Nat → Heap → Prop) : Prop where
  obj : ∀ j h, tn j h → ∀ b ∈ fp, ∃ o, h.get? b = some o ∧ ∀ v, o.data ≠ .cell v
  keep : ∀ j h h', tn j h → (∀ b ∈ fp, ∀ o, h.get? b = some o → h'.get? b = some o) → tn j h'
  item : ∀ (Y : Cx), Y.prog = P → Y.w = w → Y.K = K → L2H.Hot1 Y.A p → ∀ (j : Nat) (pz : List (Addr × Obj)) (t : Shared) (τ : L2.St) (G : Hp) (EE : Value → Shared → Prop), p ∈ Y.pn ++ pz → Inv Y pz τ G t → (∀ b ∈ fp, FpOk Y pz G b) → tn j t.heap → J.go j G →
    wpAny (model P w) Y.A (pyNext (.ref it)) (fun r t1 => ∃ u, r = some u ∧ wpAny (model P w) Y.A (letOwnedTupleGo tg (.ref it) u) (fun _ t2 => ∃ x G', Inv Y pz τ G' t2 ∧ RelV x u ∧ J.yld j G x G' ∧ tn (j + 1) t2.heap ∧ ∀ b ∈ fp, G' b = none) EE t1) EE t
  done : ∀ (Y : Cx), Y.prog = P → Y.w = w → Y.K = K → L2H.Hot1 Y.A p → ∀ (j : Nat) (pz : List (Addr × Obj)) (t : Shared) (τ : L2.St) (G : Hp) (EE : Value → Shared → Prop), p ∈ Y.pn ++ pz → Inv Y pz τ G t → (∀ b ∈ fp, FpOk Y pz G b) → tn j t.heap → J.stop j G →
    wpAny (model P w) Y.A (pyNext (.ref it)) (fun r t1 => r = none ∧ Inv Y pz τ G t1) EE t
  self : ∀ (A : Around) (j : Nat) (t : Shared) (QQ : Value → Shared → Prop) (EE : Value → Shared → Prop), tn j t.heap → QQ (.ref it) t → wpAny (model P w) A (pyIter (.ref it)) QQ EE t
theorem turnP_list {p : Addr × Obj} {P : Program} {w : World} {K : PySem.W.Frag} {tg : Expr} (a it : Addr) : TurnP p P w K tg (Itl K a) [it] it (fun j h => h.IsListIter it a j) where
  obj := fun j h ⟨o, e, c, d⟩ b hb => ⟨o, by rw [List.mem_singleton.mp hb]; exact e, fun v z => by rw [d] at z; cases z⟩
  keep := fun j h h' st k => st.at fun o e => k it (List.mem_singleton.mpr rfl) o e
  item := by
    intro Y hP hw hK hot j pz t τ G EE hp J0 hf st hg
    subst hP hw hK
    obtain ⟨xs, x, hq, hx⟩ := hg
    obtain ⟨its, rv, pl, hz⟩ := J0.list hq
    obtain ⟨u, hu, ru⟩ := rv.get hx
    obtain ⟨f0, f1, f2, f3, f4, f5⟩ := hf it (List.mem_singleton.mpr rfl)
    refine wpAny_pyNext_list_item st pl.isList (x := u) (by simpa using hu) fun h' st' sb => ?_
    obtain ⟨o, e, c, d⟩ := id st'
    exact ⟨u, rfl, go_of (s := { t with heap := h' }) e c d (by decide) ⟨x, G, J0.turned (t' := t.toks) (fun b o hb e => (sb.2 b hb).trans e) f0 f1 f3 f4 f5, ru, ⟨rfl, fun ys hy => by rw [J0.list_inj hy hq]; exact hx⟩, st', fun b hb => (hf b hb).1⟩⟩
  done := by
    intro Y hP hw hK hot j pz t τ G EE hp J0 hf st hg
    subst hP hw hK
    obtain ⟨xs, hq, hx⟩ := hg
    obtain ⟨its, rv, pl, hz⟩ := J0.list hq
    obtain ⟨f0, f1, f2, f3, f4, f5⟩ := hf it (List.mem_singleton.mpr rfl)
    have hl := rv.length
    exact list_end_hot (hotI hot hp J0) st pl.isList (by simp; omega) fun h' eb => ⟨rfl, J0.turned (t' := t.toks) (fun b o hb e => eb b o hb e) f0 f1 f3 f4 f5⟩
  self := fun _ _ _ _ _ st h => wpAny_pyIter_listiter st h
section
variable {X : Cx} {p : Addr × Obj} {tg : Expr}
def PIEp (X : Cx) (p : Addr × Obj) (pins : List (Addr × Obj)) (σ : L2.St) (tg : Expr) (R : It → Hp → Prop) (itv : Value) (t : Shared) : Prop :=
  ∃ (it : Addr) (fp : List Addr) (tn : Nat → Heap → Prop) (J : It) (G : Hp), itv = .ref it ∧ Inv X pins σ G t ∧ TurnP p X.prog X.w X.K tg J fp it tn ∧ tn 0 t.heap ∧ (∀ b ∈ fp, FpOk X pins G b) ∧ R J G
structure PIp' (X : Cx) (p : Addr × Obj) (tg iter : Expr) (wi : TI) : Prop where
  run : ∀ (pins : List (Addr × Obj)) (s : Shared) (σ : L2.St) (H : Hp) (R : It → Hp → Prop), Inv X pins σ H s → wi σ H R → wpAny (model X.prog X.w) X.A (eval iter X.env) (fun v s1 => wpAny (model X.prog X.w) X.A (pyIter v) (PIEp X p pins σ tg R) X.xe s1) X.xe s
theorem pip_list {e : Expr} {te : TE} (he : PE X e te) : PIp' X p tg e (fun σ H R => te σ H fun v H1 => ∃ a, v = .ref a ∧ (∃ xs, SqL X.K H1 a xs) ∧ R (Itl X.K a) H1) := by
  refine ⟨fun pins s σ H R I h => thn (he.run pins s σ H _ I h) fun u s1 ⟨v, H1, I1, r1, a, ev, ⟨xs, hq⟩, q⟩ => ?_⟩
  subst ev
  cases r1
  obtain ⟨its, rv, pl, hz⟩ := I1.list hq
  refine wpAny_pyIter_list pl.isList ?_
  have I2 : Inv X pins σ H1 { s1 with heap := s1.heap.push { cls := .type "list_iterator", data := .fields #[.ref a, .int 0 0] } } := I1.kept (t' := s1.toks) fun b o e => Heap.get?_push_of_some _ e
  refine ⟨s1.heap.objs.size, [s1.heap.objs.size], _, _, H1, rfl, I2, turnP_list a _, ⟨_, Heap.get?_push_size _ rfl, rfl, rfl⟩, fun b hb => ?_, q⟩
  rw [List.mem_singleton.mp hb]
  exact I1.fpOk (Nat.le_refl _) (I1.hok.fresh (Nat.le_refl _))
/-- [elt for tg in iter if ..] while p is handled -/
theorem pe_lcP {elt iter : Expr} {ifs : List Expr} {scope : Scope} {own : List (Str × Nat)} {pos : Pos} {wi : TI} {g : TG} {tt : TT} {te : TE} (hot : L2H.Hot1 X.A p) (hpn : p ∈ X.pn) (hN : X.N.Nodup) (hi : PIp' X p tg iter wi) (ok : BlkOk X.N X.env.scope scope own)
    (hg : ∀ (s : Shared) (H : Hp) (C : Addr) (cl : List (Str × Addr)) (fp : List Addr), PGp (X.blk s H scope (compEnvC scope cl C X.env) fp) p tg g) (ht : ∀ (s : Shared) (H : Hp) (C : Addr) (cl : List (Str × Addr)) (fp : List Addr), PTs (X.blk s H scope (compEnvC scope cl C X.env) fp) ifs tt)
    (he : ∀ (s : Shared) (H : Hp) (C : Addr) (cl : List (Str × Addr)) (fp : List Addr), PE (X.blk s H scope (compEnvC scope cl C X.env) fp) elt te) (hs : ∀ x, foldedSetIterable iter X.env x = pure x) :
    PE X (.ListComp elt [⟨tg, iter, ifs, 0⟩] scope pos) (tLc wi g tt te (own.map (·.2))) := by
  refine ⟨fun pins s σ H Q I h => ?_⟩
  rw [eval_ListComp]
  have hfr : ∀ y ∈ scope.names, y.2 = .free → ∃ c, X.env.cells.lookup y.1 = some c := fun y hy e => (ok.free y hy e).elim (fun k => I.ok.has _ (.inl k)) fun k => I.ok.has _ (.inr k)
  refine wpAny_comprehension_free (use := none) rfl hs (closure_ok hfr) ok.kind (fun y hy e => by rw [ok.uniq y hy, e]) (thn (hi.run pins s σ H _ I h) fun xv s1 hx => thn hx fun itv s2 h2 => ?_)
  obtain ⟨it, fp, tn, J, H2, e, I2, T, st2, f2, q⟩ := h2
  subst e
  refine wpAny_newObj_type (newEnv_comp ?_) (by show 0 ≤ sizeLine; decide)
  generalize hD : s2.heap.objs.size = D
  obtain ⟨Wm, ⟨m0, w0⟩, turn⟩ := q D (I2.hok.fresh (Nat.le_of_eq hD))
  generalize hs3 : ({ s2 with heap := s2.heap.push { cls := .type "list", data := .seq ([] : List Value).toArray } } : Shared) = s3
  have I3 : Inv X pins σ (upd H2 D (.lst [])) s3 := by
    rw [← hs3]; refine I2.laid (t' := s2.toks) (fun b o e => Heap.get?_push_of_some _ e) (Nat.le_of_eq hD) ⟨Nat.zero_le _, [], 0, .nil, ?_⟩
    rw [← hD]; exact Heap.get?_push_size _ rfl
  have h3 : s3.heap = s2.heap.push { cls := .type "list", data := .seq ([] : List Value).toArray } := by rw [← hs3]
  have f3 : ∀ b ∈ fp, FpOk X pins (upd H2 D (.lst [])) b ∧ b < s3.heap.objs.size := fun b hb => by
    obtain ⟨o, e, _⟩ := T.obj _ _ st2 b hb
    have hlt := Heap.lt_size e
    exact ⟨⟨by rw [upd_ne (by rw [← hD]; exact Nat.ne_of_lt hlt)]; exact (f2 b hb).1, (f2 b hb).2⟩, by rw [h3, Heap.size_push]; exact Nat.lt_succ_of_lt hlt⟩
  have st3 : tn 0 s3.heap := T.keep _ _ _ st2 fun b _ o e => by rw [h3]; exact Heap.get?_push_of_some _ e
  have I4a := block_start I3 ok hN f3
  have pin3 := I3.pin p (List.mem_append_left _ hpn)
  have pg := hg s3 (upd H2 D (.lst [])) s3.heap.objs.size (cellsFrom (s3.heap.objs.size + 1) scope.names (cloFrom X.env.cells scope.names [])) fp
  have pt := ht s3 (upd H2 D (.lst [])) s3.heap.objs.size (cellsFrom (s3.heap.objs.size + 1) scope.names (cloFrom X.env.cells scope.names [])) fp
  have pe := he s3 (upd H2 D (.lst [])) s3.heap.objs.size (cellsFrom (s3.heap.objs.size + 1) scope.names (cloFrom X.env.cells scope.names [])) fp
  have nfp : ∀ b ∈ fp, (upd H2 D (.lst [])) b = none := fun b hb => (f3 b hb).1.1
  show codeAny _ _ (.compStart (.ListComp elt [⟨tg, iter, ifs, 0⟩] scope pos) 0 (.ref it) (.ref D) (compEnvC scope (cellsFrom (s3.heap.objs.size + 1) scope.names (cloFrom X.env.cells scope.names [])) s3.heap.objs.size X.env)) (compPost (model X.prog X.w) X.A X.xe none (EP X pins σ Q) (.ref D) s3.heap.objs.size) { s3 with heap := pushCells (s3.heap.push { cls := .type "dict", data := .dict #[] }) scope.names }
  generalize hce : compEnvC scope (cellsFrom (s3.heap.objs.size + 1) scope.names (cloFrom X.env.cells scope.names [])) s3.heap.objs.size X.env = ce at I4a pg pt pe ⊢
  have cL : ce.locals = s3.heap.objs.size := by subst hce; rfl
  generalize hH3 : upd H2 D (.lst []) = H3 at I3 I4a pg pt pe w0 nfp f3 pin3
  generalize hs4 : ({ s3 with heap := pushCells (s3.heap.push { cls := .type "dict", data := .dict #[] }) scope.names } : Shared) = s4 at I4a ⊢
  have up4 : ∀ b o, s3.heap.get? b = some o → s4.heap.get? b = some o := fun b o e => by rw [← hs4]; exact pushCells_keeps _ _ _ _ (Heap.get?_push_of_some _ e)
  have st4 : tn 0 s4.heap := T.keep _ _ _ st3 fun b _ o e => up4 b o e
  -- the exception stays in the block's sight
  have I4 : Inv (X.blk s3 H3 scope ce fp) [p] (wipe σ (own.map (·.2))) H3 s4 := I4a.pins_of fun r hr => by
    rw [List.mem_singleton.mp hr]
    refine ⟨up4 _ _ pin3.1, pin3.2.1, fun z => ?_, fun z => (List.mem_cons.mp (I3.stkSub p.1 z)).elim pin3.2.2.1 pin3.2.2.2.1, pin3.2.2.2.2⟩
    have hl := Heap.lt_size pin3.1
    have z' : p.1 = ce.locals := z
    rw [z', cL] at hl
    exact Nat.lt_irrefl _ hl
  have stat : ∀ {τ : L2.St} {G : Hp} {t : Shared}, Inv (X.blk s3 H3 scope ce fp) [p] τ G t → (∀ b ∈ fp, G b = none) → ∀ b ∈ fp, FpOk (X.blk s3 H3 scope ce fp) [p] G b := fun {τ G t} J0 hn b hb =>
    ⟨hn b hb, (J0.ok.exf b hb).1, J0.ok.exfs b hb, .inl hb, fun x c e => (J0.ok.exf b hb).2 x c e, fun r hr => by
      have hr' : r = p := List.mem_singleton.mp (show r ∈ [p] from hr)
      rw [hr']
      exact (f3 b hb).1.2.2.2.2.2 p (List.mem_append_left _ hpn)⟩
  have loop : codeAny (model X.prog X.w) X.A (.compLoop (.ListComp elt [⟨tg, iter, ifs, 0⟩] scope pos) 0 (.ref it) (.ref D) ce) (compPost (model X.prog X.w) X.A X.xe none (EP X pins σ Q) (.ref D) s3.heap.objs.size) s4 := by
    refine compLoop_any (fun n t => ∃ j G, Inv (X.blk s3 H3 scope ce fp) [p] (wipe σ (own.map (·.2))) G t ∧ tn j t.heap ∧ (∀ b ∈ fp, G b = none) ∧ Wm j n G) ?_ m0 ⟨0, H3, I4, st4, nfp, w0⟩
    rintro n s5 ⟨j, H5, I5, st5, n5, w5⟩
    rcases turn j n H5 w5 with ⟨stop, qq⟩ | ⟨go, Nx, hNx, step⟩
    · refine thnF (T.done (X.blk s3 H3 scope ce fp) rfl rfl rfl hot j [p] s5 _ H5 (fun _ _ => False) (by simp) I5 (stat I5 n5) st5 stop) fun r s6 ⟨hr, I6⟩ => ?_
      subst hr
      have I7 : Inv X pins σ H5 s6 := I3.call' (ch := fp) I6.os I6.base I6.hok I6.bare fun b hb => ⟨(f3 b hb).1.2.2.2.1, (f3 b hb).1.2.1, (f3 b hb).1.2.2.2.2.1, (f3 b hb).1.2.2.2.2.2⟩
      have nC : H5 s3.heap.objs.size = none := by have z : H5 ce.locals = none := I6.free; rw [cL] at z; exact z
      obtain ⟨m, hn, _⟩ := I6.loc
      have hn' : s6.heap.Ns ce.locals m := hn
      rw [cL] at hn'
      obtain ⟨g0, g1, g2, g3, g4, g5⟩ := I3.fpOk (Nat.le_refl _) nC
      exact ⟨m, hn', fun h2 sb => ⟨.ref D, H5, I7.turned (t' := s6.toks) (fun b o hb e => (sb.2 b hb).trans e) g0 g1 g3 g4 g5, rfl, qq⟩⟩
    · refine thnF (T.item (X.blk s3 H3 scope ce fp) rfl rfl rfl hot j [p] s5 _ H5 (fun _ _ => False) (by simp) I5 (stat I5 n5) st5 go) fun r s6 ⟨u, hr, h6⟩ => ?_
      subst hr
      refine thnF h6 fun _ s7 ⟨x, H7, I7, r7, y7, st7, n7⟩ => ?_
      have I7' := I7.pinned (stat I7 n7) (T.obj _ _ st7)
      refine thnF (pg _ s7 _ H7 x u _ (by simp) I7' r7 (step x H7 y7)) fun _ s8 ⟨σ8, H8, I8, hw8, q8⟩ => thnF (pt.run _ s8 σ8 H8 _ I8 q8) fun b s9 ⟨H9, I9, q9⟩ => ?_
      have fin : ∀ {t : Shared} {G : Hp}, Inv (X.blk s3 H3 scope ce fp) ([p] ++ pinsAt fp s7.heap) σ8 G t → Nx G → ∃ m, m < n ∧ ∃ j G, Inv (X.blk s3 H3 scope ce fp) [p] (wipe σ (own.map (·.2))) G t ∧ tn j t.heap ∧ (∀ b ∈ fp, G b = none) ∧ Wm j m G := fun {t G} J0 nx => by
        obtain ⟨m', hm, w'⟩ := hNx G nx
        have pin' : ∀ b ∈ fp, ∀ o, s7.heap.get? b = some o → t.heap.get? b = some o ∧ G b = none := fun b hb o e => let z := J0.pin (b, o) (List.mem_append_right _ (List.mem_append_right _ (mem_pinsAt hb e))); ⟨z.1, z.2.1⟩
        refine ⟨m', hm, j + 1, G, (J0.unpinned (pins := [p])).weak (by rw [← hw8, wipe_length]) (fun i v e => ?_), T.keep _ _ _ st7 fun b hb o e => (pin' b hb o e).1, fun b hb => ?_, w'⟩
        · rw [← hw8] at e; exact (wipe_some e).1
        · obtain ⟨o, e, _⟩ := T.obj _ _ st7 b hb; exact (pin' b hb o e).2
      cases b with
      | false => simp only [Bool.false_eq_true, if_false] at q9 ⊢; exact fin I9 q9
      | true =>
        simp only [if_true] at q9 ⊢
        refine thnF (pe.run _ s9 σ8 H9 _ I9 q9) fun z s10 ⟨yv, H10, I10, r10, acc, hD10, hz10, nx⟩ => app_ok (X := X.blk s3 H3 scope ce fp) I10 hD10 hz10 r10 fun s11 I11 => fin I11 nx
  exact codeAny_compStart_list loop (T.self X.A 0 _ _ _ st4 loop)
end
end DH
set_option maxHeartbeats 2000000
/-! DH3: a def called while an error is handled; isinstance of the error. -/
namespace DH
open PySem PySem.Spec PyProof.Rows L2 HotX DL

/-! ### isinstance of the handled error -/
theorem call_isP {X : Cx} {p : Addr × Obj} {Dc : Addr} (hp : p ∈ X.pn) (C : ExcC X.K Dc) (hz : Zc (.ref Dc) none p.2) (hf : ∃ vs, p.2.data = .fields vs) : CallR X (.builtin "isinstance") (rIsE X.K Dc p.1) := by
  rintro pins s σ H xs us Q I r ⟨c, cv, b, rfl, hcv, e, q⟩
  obtain ⟨u1, u2, rfl, rx, rt⟩ := vals2 r
  cases rx
  have ec := hcv _ rt
  subst ec
  have hget := (I.pin p (List.mem_append_left _ hp)).1
  obtain ⟨vs, hv⟩ := hf
  have J : PySem.W.InstAt s.heap p.1 p.2 Dc none := by
    obtain ⟨a, oc, od, oda, osl⟩ := p
    obtain ⟨h1, h2⟩ := hz
    dsimp only at h1 h2 hv hget
    subst h1 h2 hv
    exact ⟨hget, rfl, rfl, trivial⟩
  exact PySem.W.kia_one (PySem.W.handS_kitx_exc C.hg C.hk C.hs C.hd C.ha C.hn C.ht C.hm) I.kIn J e (fun z => nomatch z) fun tk => ⟨.bl b, H, I.kept (t' := tk) fun _ _ z => z, rfl, q⟩
/-- isinstance(e, C), C an own class: isE tells the answer -/
theorem de_isE {X : Cx} {E : DL.St → XK} {σd : List Sl} {p : Addr × Obj} {c y : Str} {b : Bool} {p1 p2 pos px : Pos} {i : Nat} {x : Str} (hp : p ∈ X.pn) (C : ExcC X.K (He.ga X.K c)) (hz : Zc (.ref (He.ga X.K c)) none p.2) (hf : ∃ vs, p.2.data = .fields vs)
    (hk : PySem.W.kitOne X.K (.ref (He.ga X.K c)) (.ref (He.ga X.K y)) = some b) (hg : Gl X "isinstance") (hm : X.mg "isinstance" = none) (hgy : Gl X y) (hmy : X.mg y = some (.ref (He.ga X.K y))) (hdy : (y == ("__debug__" : Str)) = false) (hi : σd[i]? = some (.val (.adr p.1))) (hN : X.N[i]? = some x) (hv : Vis X.env.scope x) (hd : (x == ("__debug__" : Str)) = false) (hcd : (x == ("__classdict__" : Str)) = false)
    (he : starEach [.Name x px, .Name y p2] X.env = [(false, eval (.Name x px) X.env), (false, eval (.Name y p2) X.env)]) (he2 : starEach [.Name y p2] X.env = [(false, eval (.Name y p2) X.env)]) : DE X E σd (.Call (.Name "isinstance" p1) [.Name x px, .Name y p2] [] pos) (pure (.bl b)) :=
  ⟨pe_imp (pe_callB (call_isP hp C hz hf) hg hm (by rfl) (pa_cons (pe_var hN hv hd hcd) (pa_cons (pe_glob hgy hmy (v := .ref (He.ga X.K y)) rfl hdy) pa_nil he2) (by rw [he, he2])) (by decide) (by decide) (by rw [he, he2]) (by rw [he2]; rfl)) fun σ H Q ⟨W, st, hh, hs, h⟩ => by
    obtain ⟨v, q1, q2⟩ := hs.val i _ hi
    exact ⟨v, q1, .ref (He.ga X.K y), .ref (He.ga X.K y), b, by rw [show v = .ref p.1 from q2], fun u r => r, hk, After.pure' h hh _ rfl⟩⟩

/-! ### a def that is called there -/
/-- the promise of a def of one parameter, the handled error its argument; c the error's class -/
structure FnP (P : Program) (w : World) (K : PySem.W.Frag) (mg : Str → Option Value) (base : Heap) (k : Nat) (f : Addr) (fd : FuncData) (x c : Str) (m : M D) : Prop where
  run : ∀ (A : Around) (outer : List Env) (s : Shared) (H : Hp) (args : Args) (u : Value) (Q : VK) (p : Addr × Obj) (W : Wd) (st : Store), L2H.RoomH k A → L2H.Hot1 A p → L2H.PinOk outer H s p → Zc (.ref (He.ga K c)) none p.2 → Env0 P w K mg base A outer s H → BindsTo s fd args [(x, u)] → u = .ref p.1 →
    Holds K W H st → Fin K W H (fun _ _ _ => False) (m st) Q → codeAny (model P w) A (.call (.ref f) args) (CR (L2N.CX P w) outer P w H s Q (fun _ _ _ => False)) s
section
variable {P : Program} {w : World} {K : PySem.W.Frag} {mg : Str → Option Value} {base : Heap} {x qual y c : Str} {params : Arguments} {body : List Stmt} {scope : Scope} {kws : List (Str × V)} {f : Addr} {fd : FuncData} {N : List Str} {k : Nat}
theorem fnP_of {T : Type} {eN : T → List Sl} {mB : M (Fl T Empty)} (F : FunD K x qual params body scope [] kws f fd) (S : FnScope N [y] scope)
    (hbody : ∀ (cdv : Value) (A : Around) (outer : List Env) (s : Shared) (H : Hp) (p : Addr × Obj), L2H.Hot1 A p → Zc (.ref (He.ga K c)) none p.2 → (∃ vs, p.2.data = .fields vs) → L2H.RoomH k (A.deeper (envOfC qual scope s.heap.objs.size f cdv)) →
      DB (L2H.cxH (L2N.CX P w) P w K mg base N qual scope f cdv A outer s H (fun _ _ _ => False) p) (fun _ _ _ => False) (startD N [.adr p.1]) body eN eE mB) : FnP P w K mg base (k + 1) f fd y c (mB >>= retM) := by
  obtain ⟨oc, od, dV, kV, doc, pm, an, cdv, ct, osl, rfl, lk, hcd, _, _⟩ := F.ex
  refine ⟨fun A outer s H args u Q p W st hr hot hpin hz e0 hb hu hh h => ?_⟩
  subst hu
  have KX : K.In s.heap := e0.mod.kin.keeps fun b o e => (e0.bs b o e).1
  have lim : s.heap.NoLimit := e0.mod.nolimit.keeps fun b o e => (e0.bs b o e).1
  have hk1 : ∀ z ∈ [(y, Value.ref p.1)], scope.names.lookup z.1 = some .local ∨ (scope.names.lookup z.1 = some .cell ∧ ((cellsFrom (s.heap.objs.size + 1) scope.names []).lookup z.1).isSome = true) := fun z hz => by
    rw [List.mem_singleton.mp hz]
    exact (S.par y List.mem_cons_self).imp id fun q => ⟨q, PySem.W.cellsFrom_some _ _ _ (.inl q)⟩
  refine codeAny_call_function hr.depth (KX _ _ lk) rfl S.co S.gen rfl (PySem.W.codeRec_of KX hcd) (hb _ _ _ _ (wpAny_newFunctionEnv_cells S.kind hk1 fun env he s1 xx => ?_))
  subst he
  refine ⟨lim.keeps xx.toInCall.keep, codeAny_func ?_⟩
  have ht := (hbody cdv A outer s H p hot hz (let ⟨_, vs, e, _⟩ := hot; ⟨vs, e⟩) (hr.deeper _)).pss
  have I : Inv (L2H.cxH (L2N.CX P w) P w K mg base N qual scope f cdv A outer s H (fun _ _ _ => False) p) [] (L2.start N [V.ref p.1]) H s1 := L2H.inv_startH (us := [.ref p.1]) (vs := [V.ref p.1]) S hpin e0 rfl (.cons rfl .nil) xx
  have hq : tDB K (startD N [.adr p.1]) (fun _ _ _ => False) eN eE mB { nx := fun _ H' => Q .non H', rt := Q } (L2.start N [V.ref p.1]) H := by
    refine ⟨W, st, hh, Slots.start (vs := [V.ref p.1]) (ds := [.adr p.1]) ⟨_, _, rfl, rfl, rfl⟩, (After.bind h).mono fun fl W1 H1 st1 _ e1 hh1 h1 => ?_⟩
    cases fl with
    | next z => exact fun σ' _ => After.pure' h1 hh1 _ rfl
    | ret d => exact fun v r => After.pure' h1 hh1 v r
    | brk t => exact t.elim
    | cnt t => exact t.elim
  refine wpAny_mono (ht.run [] s1 (L2.start N [V.ref p.1]) H _ I hq) (fun fl s' hs => ?_) fun e s' hs => hs
  cases fl with
  | ret u => obtain ⟨v, σ', H', J, rv, q⟩ := hs; exact ⟨v, H', J.os, J.bare, J.base, J.hok, rv, q⟩
  | next => obtain ⟨σ', H', J, q⟩ := hs; exact ⟨V.non, H', J.os, J.bare, J.base, J.hok, (rfl : RelV V.non Value.none), q⟩
  | brk => obtain ⟨_, _, _, q⟩ := hs; exact False.elim q
  | cont => obtain ⟨_, _, _, q⟩ := hs; exact False.elim q
end
section
variable {X : Cx} {p : Addr × Obj} {k i : Nat} {f : Addr} {fd : FuncData} {x y c e : Str} {m : M D} {q pe pos : Pos}
/-- f(e) in the suite -/
theorem pe_callP (hp : p ∈ X.pn) (hot : L2H.Hot1 X.A p) (hz : Zc (.ref (He.ga X.K c)) none p.2) (F : FnP X.prog X.w X.K X.mg X.base k f fd y c m) (hr : L2H.RoomH k X.A) (hg : Gl X x) (hm : X.mg x = some (.ref f)) (hk : PySem.W.keepIn X.K (.ref f) = true) (hb : Binds X.K fd [y] []) (hN : X.N[i]? = some e) (hv : Vis X.env.scope e) (hd : (e == ("__debug__" : Str)) = false) (hcd : (e == ("__classdict__" : Str)) = false)
    (hdb : (x == ("__debug__" : Str)) = false) (he : starEach [.Name e pe] X.env = [(false, eval (.Name e pe) X.env)]) :
    PE X (.Call (.Name x q) [.Name e pe] [] pos) (fun σ H Q => σ[i]? = some (some (.ref p.1)) ∧ ∃ (W : Wd) (st : Store), Holds X.K W H st ∧ Fin X.K W H (fun _ _ _ => False) (m st) Q) := by
  refine ⟨fun pins s σ H Q I ⟨h1, W, st, hh, h⟩ => wpAny_Call_Name_kw (ld_glob I hg hm ?_ hdb)⟩
  have ha : PA X [.Name e pe] (tCons (tVar i) tNil) := pa_cons (pe_var hN hv hd hcd) pa_nil he
  refine PySem.W.callWith_K (h₀ := X.base) I.ok.mod.kin hk (thn (ha.run pos pins s σ H (fun vs H1 => vs = [V.ref p.1] ∧ H1 = H) I ⟨.ref p.1, h1, rfl, rfl⟩) fun us s1 ⟨vs, H1, I1, r, ev, eH⟩ => ⟨I1.kIn, ?_⟩) he (by rfl)
  subst ev
  rw [eH] at I1
  obtain ⟨u, rfl, ru⟩ := vals1 r
  obtain rfl : u = Value.ref p.1 := ru
  have b := hb s1 [.ref p.1] I1.kIn rfl
  have P1 := I1.pin p (List.mem_append_left _ hp)
  have hpin : L2H.PinOk X.stack H s1 p := ⟨P1.1, P1.2.1, fun hm => (List.mem_cons.mp (I1.stkSub p.1 hm)).elim P1.2.2.1 P1.2.2.2.1, P1.2.2.2.2⟩
  refine wpAny_call (codeAny_mono (F.run X.A X.stack s1 H ⟨[.ref p.1], []⟩ (.ref p.1) Q p W st hr hot hpin hz I1.env0 b rfl hh h) fun r s' hq => ?_)
  cases r with
  | error e =>
    obtain ⟨_, _, _, _, _, _, _, _, _, _, _, _, z⟩ := hq
    exact z.elim
  | ok fl =>
    cases fl with
    | ret u => exact I1.after hq
    | next => exact False.elim hq
    | brk => exact False.elim hq
    | cont => exact False.elim hq
end
end DH
set_option maxHeartbeats 2000000
/-! DH4: a lambda is made, handed to a def, and called there. -/
namespace DH
open PySem PySem.Spec PyProof.Rows L2 HotX DL LamX

section
variable {X : Cx} {pins : List (Addr × Obj)} {σ : L2.St} {H : Hp} {s : Shared}
/-- what the making of a lambda does to the heap: nothing, or the table grows by a new code object -/
def Grown (H H1 : Hp) (P c' : Addr) (q : Str) (ps : Array Value) : Prop := (H1 = H ∧ ∃ pos cv, codeAmong pos ps.toList = some cv ∧ cv = .ref c') ∨
  ∃ ps' : Array Value, H c' = none ∧ H1 = upd (upd H P (.tbl ps')) c' (CodeO c' q) ∧ TriplesOk ps'.toList ∧ ∀ (pos : Pos) (cv : Value), codeAmong pos ps'.toList = some cv → codeAmong pos ps.toList = some cv ∨ cv = .ref c'
theorem lam_mk {c P : Addr} {q : Str} {ps : Array Value} {params : Arguments} {body : Expr} {scope : Scope} {pos : Pos} {E : Value → Shared → Prop} {Q : Value → Shared → Prop} (I : Inv X pins σ H s) (TB : TabB X.base X.mg c P) (hcode : X.env.code = .ref c) (hq : X.env.qual ++ "<lambda>" = q)
    (hP : H P = some (.tbl ps)) (ht : TriplesOk ps.toList) (ha : ∀ (pos : Pos) (cv : Value), codeAmong pos ps.toList = some cv → ∃ c, cv = .ref c ∧ H c = some (CodeO c q)) (hdef : defaultsOf params X.env = ([], [])) (hfree : ∀ y ∈ scope.names, y.2 = .free → ∃ c, X.env.cells.lookup y.1 = some c)
    (h : ∀ (f c' : Addr) (pm ctv : Value) (H1 : Hp) (s' : Shared), Inv X pins σ H1 s' → Grown H H1 P c' q ps → s'.heap.get? f = some (PySem.W.kla_obj "<lambda>" q params body scope (cloFrom X.env.cells scope.names []) pm c' ctv) → H1 f = none → f ∉ frs X.stack → H1 c' = some (CodeO c' q) → Q (.ref f) s') :
    wpAny (model X.prog X.w) X.A (eval (.Lambda params body scope pos) X.env) Q E s := by
  subst hq
  refine PySem.W.kla_eval hdef ?_
  have bP : s.heap.BuiltinsAt X.mg P := TB.bm.keeps I.bk
  have hP' : s.heap.get? P = some { cls := .none, data := .fields ps } := I.hok P _ hP
  have nofr : ∀ f, s.heap.objs.size ≤ f → f ∉ frs X.stack := fun f hf z => (List.mem_cons.mp (I.stkSub _ z)).elim (fun e => by
    have h1 := I.lt
    rw [← e] at h1
    exact Nat.lt_irrefl _ (Nat.lt_of_lt_of_le h1 hf)) fun e => I.nofs hf e
  cases hc : codeAmong pos ps.toList with
  | none =>
    refine PySem.W.kla_makeFunction (mg := X.mg) (c := c) (P := P) (ps := ps) (closure_ok hfree) I.ok.glob (I.mod.glob.keeps I.bk) hcode (TB.code.keeps I.bk) hP' ht hc TB.gP bP fun c' ctv h' tk hx hge hlt hrec htb => ?_
    obtain ⟨c2, oc, vs, t, e2, hoc, hd, hv⟩ := hrec
    cases e2
    have hsz : s.heap.objs.size ≤ h'.objs.size := Nat.le_trans hge (Nat.le_of_lt hlt)
    have nC : H c' = none := I.hok.fresh hge
    have I1 := inv_table (t' := tk) (more := #[rawInt pos.line, rawInt pos.col, .ref c']) (h' := h'.push (PySem.W.kla_obj "<lambda>" (X.env.qual ++ "<lambda>") params body scope (cloFrom X.env.cells scope.names []) ((X.mg "__name__").getD .none) c' ctv)) I hP
      (fun b o hb e => Heap.get?_push_of_some _ (hx b o hb e)) (Heap.get?_push_of_some _ htb) hge ⟨oc, vs, t, Heap.get?_push_of_some _ hoc, hd, hv⟩
    have eL : (ps ++ #[rawInt pos.line, rawInt pos.col, .ref c']).toList = ps.toList ++ [rawInt pos.line, rawInt pos.col, .ref c'] := by simp
    refine h h'.objs.size c' ((X.mg "__name__").getD .none) ctv _ _ I1 (.inr ⟨_, nC, rfl, by rw [eL]; exact PySem.TriplesOk_snoc _ _ _ _ ht, fun p' cv hcv => ?_⟩) (Heap.get?_push_size _ rfl) ?_ (nofr _ hsz) upd_same
    · rw [eL] at hcv
      exact among_app _ ht hcv
    · rw [upd_ne (Nat.ne_of_gt hlt), upd_ne (Nat.ne_of_gt (Nat.lt_of_lt_of_le (Heap.lt_size hP') hsz))]
      exact I.hok.fresh hsz
  | some cv =>
    obtain ⟨c', e, hco⟩ := ha pos cv hc
    refine PySem.W.kla_makeFunctionHit (mg := X.mg) (c := c) (P := P) (ps := ps) (closure_ok hfree) I.ok.glob (I.mod.glob.keeps I.bk) hcode (TB.code.keeps I.bk) hP' ht (by rw [hc, e]) bP fun ctv h' tk hx hsz => ?_
    have I1 : Inv X pins σ H { s with heap := h'.push (PySem.W.kla_obj "<lambda>" (X.env.qual ++ "<lambda>") params body scope (cloFrom X.env.cells scope.names []) ((X.mg "__name__").getD .none) c' ctv), toks := tk } := I.kept fun b o e => Heap.get?_push_of_some _ (hx b o e)
    exact h h'.objs.size c' ((X.mg "__name__").getD .none) ctv H _ I1 (.inl ⟨rfl, pos, cv, hc, e⟩) (Heap.get?_push_size _ rfl) (I.hok.fresh hsz) (nofr _ hsz) hco
end
/-- .. at the world: the store's table holds on -/
theorem Holds.grown {K : PySem.W.Frag} {W : Wd} {H H1 : Hp} {st : Store} {j : Nat} {P c' : Addr} {x q : Str} {ps : Array Value} (hh : Holds K W H st) (hj : st[j]? = some (.tab x q)) (hP : W.mu[j]? = some P) (hp : H P = some (.tbl ps)) (g : Grown H H1 P c' q ps) : Ext W W H H1 ∧ Holds K W H1 st := by
  obtain ⟨u, ea, ps0, h1, h2, h3⟩ := hh.cell j _ P hj hP
  rw [hp] at h1
  cases h1
  rcases g with ⟨e, _⟩ | ⟨ps', nc, e, t', ha'⟩
  · rw [e]; exact ⟨Ext.refl, hh⟩
  · have x1 : Ext W W H (upd H P (.tbl ps')) := Ext.wr u (List.mem_of_getElem? hP) hp
    have ncP : upd H P (.tbl ps') c' = none := by rw [upd_ne (a := P) (b := c') (fun z => by rw [z, hp] at nc; cases nc)]; exact nc
    have x2 : Ext W W (upd H P (.tbl ps')) H1 := by rw [e]; exact Ext.new1 ncP
    refine ⟨x1.trans x2, ?_⟩
    -- with the new code object first
    have nc2 : Holds K W (upd H c' (CodeO c' q)) st := hh.new1 nc
    have hp2 : upd H c' (CodeO c' q) P = some (.tbl ps) := by rw [upd_ne (ne_of_none hp nc)]; exact hp
    have sw : H1 = upd (upd H c' (CodeO c' q)) P (.tbl ps') := by
      rw [e]
      funext b
      unfold upd
      by_cases h1 : b = c'
      · by_cases h2 : b = P
        · rw [← h1, h2] at nc; rw [hp] at nc; cases nc
        · rw [if_pos h1, if_neg h2, if_pos h1]
      · rw [if_neg h1]
        by_cases h2 : b = P
        · rw [if_pos h2, if_pos h2]
        · rw [if_neg h2, if_neg h2, if_neg h1]
    have hw := nc2.wr (o' := .tbl ps') (c := .tab x q) u hP hp2 ⟨u, ea, ps', upd_same, t', fun pos cv hc => by
      rcases ha' pos cv hc with z | z
      · obtain ⟨c0, q1, q2, q3⟩ := h3 pos cv z
        exact ⟨c0, q1, q2, by rw [upd_ne (a := P) (b := c0) fun e => q2 (e ▸ u), upd_ne (ne_of_none q3 nc)]; exact q3⟩
      · exact ⟨c', z, hh.fresh nc, by rw [upd_ne (a := P) (b := c') fun e => by rw [e, hp] at nc; cases nc]; exact upd_same⟩⟩
    rw [sw]
    have es : st.set j (.tab x q) = st := by
      apply List.ext_getElem?
      intro i
      by_cases z : i = j
      · subst z
        rw [List.getElem?_set_self (List.getElem?_eq_some_iff.mp hj).1, hj]
      · rw [List.getElem?_set_ne (Ne.symm z)]
    rwa [es] at hw
/-- the context of the lambda's body -/
abbrev lamN (X : Cx) (A : Around) (outer : List Env) (s : Shared) (H : Hp) (E : XK) (scope : Scope) (f c' : Addr) : Cx :=
  { lamCx X A outer s H E scope f c' with xe := fun e s' => wpAny (model X.prog X.w) (A.deeper (lamEnv X scope s.heap.objs.size f c')) (leaving (lamEnv X scope s.heap.objs.size f c') e) (fun _ s2 => L2N.CX X.prog X.w outer H s E e s2) (fun e' s2 => L2N.CX X.prog X.w outer H s E e' s2) s' }
section
variable {X : Cx} {pins : List (Addr × Obj)} {σ : L2.St} {H : Hp} {s : Shared}
/-- x(), in the def that got the lambda -/
theorem pe_actN {CXg : CXT} {Eg : XK} {Ng : List Str} {qg : Str} {sg : Scope} {g f c' : Addr} {q : Str} {cdg pm ctv : Value} {params : Arguments} {body : Expr} {scope : Scope} {k i : Nat} {a : Str} {pn : List (Addr × Obj)} {xe : Value → Shared → Prop} {W : WX} {E : XK} {tb : TE} {p1 p2 : Pos}
    (I : Inv X pins σ H s) (L : LamS X.env.scope scope) (hq : X.env.qual ++ "<lambda>" = q) (hf : s.heap.get? f = some (PySem.W.kla_obj "<lambda>" q params body scope (cloFrom X.env.cells scope.names []) pm c' ctv)) (hfn : H f = none) (hfr : f ∉ frs X.stack)
    (hbind : bindArgs (PySem.W.kla_fn "<lambda>" q params body scope (cloFrom X.env.cells scope.names []) pm (.ref c') ctv) ⟨[], []⟩ = pure [])
    (tk : L2N.Takes ((cxOf CXg X.prog X.w X.K X.mg X.base Ng qg sg g cdg X.A X.stack s H Eg).tr pn xe) W) (hW : ∀ cls d σ' H', E cls d H' → W cls d σ' H') (hr : Room (k + 1) (X.A.deeper (envOfC qg sg s.heap.objs.size g cdg)))
    (hbody : ∀ (A : Around) (outer : List Env) (s : Shared) (H : Hp), Room k (A.deeper (lamEnv X scope s.heap.objs.size f c')) → PE (lamN X A outer s H E scope f c') body tb)
    (hN : Ng[i]? = some a) (hv : Vis sg a) (hd : (a == ("__debug__" : Str)) = false) (hcd : (a == ("__classdict__" : Str)) = false) :
    PE ((cxOf CXg X.prog X.w X.K X.mg X.base Ng qg sg g cdg X.A X.stack s H Eg).tr pn xe) (.Call (.Name a p1) [] [] p2) (fun τ G Q => τ[i]? = some (some (.ref f)) ∧ G c' = some (CodeO c' q) ∧ tb σ G Q) := by
  subst hq
  refine ⟨fun pz sz τ G Q J0 ⟨hs, hc, ht⟩ => ?_⟩
  refine wpAny_Call_Name_kw (thn ((pe_var (pos := p1) (i := i) hN hv hd hcd).run pz sz τ G (fun v G1 => v = .ref f ∧ G1 = G) J0 ⟨.ref f, hs, rfl, rfl⟩) fun u s1 ⟨v, G1, I1, r1, ev, eG⟩ => ?_)
  subst ev
  rw [eG] at I1
  obtain rfl : u = Value.ref f := r1
  have of1 := I1.base.keep f _ hf hfn hfr (fun z => nomatch (show f ∈ ([] : List Addr) from z))
  refine PySem.W.callWith_F0 ⟨_, _, _, _, of1⟩ ?_
  have un : Un (frs X.stack) [] H G s.heap s1.heap := I1.base
  obtain ⟨⟨oc, vs, t, hoc, hdc, hvc⟩, _, _⟩ := I1.hok c' _ hc
  have rc : codeAny (model X.prog X.w) (X.A.deeper (envOfC qg sg s.heap.objs.size g cdg)) (.call (.ref f) ⟨[], []⟩) (CR (L2N.CX X.prog X.w) (envOfC qg sg s.heap.objs.size g cdg :: X.stack) X.prog X.w G s1 Q E) s1 := by
    refine PySem.W.kla_callFunE hr.depth of1 rfl L.co L.gen rfl ⟨c', oc, vs, t, rfl, hoc, hdc, hvc⟩ ?_
    rw [hbind]
    refine wpAny_pure (wpAny_newFunctionEnv (fun y hy => (L.own y hy).2) (fun y hy => absurd hy (by simp)) (fun h₁ hns hsb => ⟨I1.nolimit.fresh _ hsb, ?_⟩) L.kind)
    show codeAny _ _ (.expr body (lamEnv X scope s1.heap.objs.size f c')) _ _
    have kp : ∀ b o, s1.heap.get? b = some o → h₁.get? b = some o := fun b o e => hsb.extBut b o (Nat.ne_of_lt (Heap.lt_size e)) (Heap.get?_push_of_some _ e)
    have J1 := lam_start2 (E := E) (f := f) (c' := c') (tk := s1.toks + ([] : List (Str × Value)).length) I L I1.env0 hr.hd un hns kp
    have J : Inv (lamN X (X.A.deeper (envOfC qg sg s.heap.objs.size g cdg)) (envOfC qg sg s.heap.objs.size g cdg :: X.stack) s1 G E scope f c') [] σ G { s1 with heap := h₁, toks := s1.toks + ([] : List (Str × Value)).length } := J1.toTry _
    refine PySem.W.kla_codeExpr (wpAny_mono ((hbody _ _ s1 G (hr.deeper _)).run [] _ _ G Q J ht) (fun v s' hq => ?_) fun e s' hq => hq)
    obtain ⟨w', G', J', rv, q⟩ := hq
    exact ⟨w', G', J'.os, J'.bare, J'.base, J'.hok, rv, q⟩
  refine wpAny_call (codeAny_mono rc fun r s' hq => ?_)
  cases r with
  | error e => exact L2N.passes_call tk hW pz τ G s1 e s' I1 hq
  | ok fl =>
    cases fl with
    | ret u => exact I1.after hq
    | next => exact False.elim hq
    | brk => exact False.elim hq
    | cont => exact False.elim hq
end
end DH
set_option maxHeartbeats 2000000
/-! DH5: _law_refused(lambda: ..). -/
namespace DH
open PySem PySem.Spec PyProof.Rows L2 HotX DL LamX

/-- the store's j-th cell is the def's table -/
def tabC (j : Nat) (x q : Str) : M Unit := fun st => match st[j]? with
  | some (.tab y r) => if (y == x && r == q) = true then .ok () st else .stuck
  | _ => .stuck
theorem tabC_cases (j : Nat) (x q : Str) (st : Store) : (st[j]? = some (.tab x q) ∧ tabC j x q st = .ok () st) ∨ tabC j x q st = .stuck := by
  unfold tabC
  cases e : st[j]? with
  | none => exact .inr rfl
  | some c =>
    cases c with
    | tab y r =>
      by_cases h : (y == x && r == q) = true
      · have h' := h
        rw [Bool.and_eq_true, beq_iff_eq, beq_iff_eq] at h'
        obtain ⟨rfl, rfl⟩ := h'
        exact .inl ⟨rfl, if_pos h⟩
      · exact .inr (if_neg h)
    | _ => exact .inr rfl
/-- what refused() answers: nothing, or the error's word -/
def catchM (cls : List Str) (mErr : Str → M D) (mb : M D) : M D := fun st => match mb st with
  | .ok _ st' => .ok (.str []) st'
  | .exc e st' => if (cls.contains e.cls && e.fs.isEmpty) = true then nox (mErr e.cls) st' else .stuck
  | .stuck => .stuck
/-- the def that tells errors -/
structure RefE (P : Program) (w : World) (K : PySem.W.Frag) (mg : Str → Option Value) (base : Heap) (ke : Nat) (cls : List Str) (mErr : Str → M D) : Prop where
  ex : ∃ fe fde, mg "_law_error" = some (.ref fe) ∧ PySem.W.keepIn K (.ref fe) = true ∧ Binds K fde ["e"] [] ∧ ∀ c ∈ cls, FnP P w K mg base ke fe fde "e" c (mErr c) ∧ PySem.W.exmOne K (.ref (He.ga K c)) (.ref (He.ga K "PushError")) = some true
abbrev refB (j : Nat) (p1 p2 p3 p4 p5 p6 p7 p8 p9 p10 p11 p12 : Pos) : List Stmt :=
  [.Try [.Expr (.Call (.Name "call" p1) [] [] p2) p3] [.ExceptHandler (some (.Name "PushError" p4)) (some "e") [.Return (some (.Call (.Name "_law_error" p5) [.Name "e" p6] [] p7)) p8] p9] [] [] p10, .Return (some (.Constant (.str "") j p11)) p12]
section
variable {X : Cx} {E : DL.St → XK} {σd : List Sl} {mb : M D} {p lpos pos p1 p2 p3 p4 p5 p6 p7 p8 p9 p10 p11 p12 : Pos} {k ke n0 : Nat} {x q : Str} {g : Addr} {fdg : FuncData} {pg params : Arguments} {sg scope : Scope} {body : Expr} {cls : List Str} {mErr : Str → M D}
theorem de_refused (j : Nat) (G : FunD X.K "_law_refused" "_law_refused" pg (refB n0 p1 p2 p3 p4 p5 p6 p7 p8 p9 p10 p11 p12) sg [] [] g fdg) (hm : X.mg "_law_refused" = some (.ref g)) (hgl : Gl X "_law_refused") (Sg : FnScope ["call", "e"] ["call"] sg)
    (hbg : ∀ (kV doc pm : Value) (an : Option Addr) (cdv ct : Value) (us : List Value), us.length = 1 → bindArgs (PySem.W.fnOf "_law_refused" "_law_refused" pg (refB n0 p1 p2 p3 p4 p5 p6 p7 p8 p9 p10 p11 p12) sg .none kV doc pm an cdv ct) ⟨us, []⟩ = pure ((["call"] : List Str).zip us))
    (hs1 : sg.names.lookup ("PushError" : Str) = some .globalImplicit) (hs2 : sg.names.lookup ("_law_error" : Str) = some .globalImplicit) (hs3 : sg.names.lookup ("e" : Str) = some .local) (hs4 : Vis sg "call") (R : RefE X.prog X.w X.K X.mg X.base ke cls mErr) (hPE : X.mg "PushError" = some (.ref (He.ga X.K "PushError")))
    (TB : TabB X.base X.mg (He.cT X.K (x, none)).1 (He.cT X.K (x, none)).2) (hcode : X.env.code = .ref (He.cT X.K (x, none)).1) (hq : X.env.qual ++ "<lambda>" = q) (hr : Room (k + 2) X.A) (hke : ke ≤ k + 1) (L : LamS X.env.scope scope) (hdef : defaultsOf params X.env = ([], []))
    (hbind : ∀ (q : Str) (cl : List (Str × Addr)) (pm cv ctv : Value), bindArgs (PySem.W.kla_fn "<lambda>" q params body scope cl pm cv ctv) ⟨[], []⟩ = pure [])
    (hbody : ∀ (A : Around) (outer : List Env) (s : Shared) (H : Hp) (E : XK) (f c' : Addr), Room k (A.deeper (lamEnv X scope s.heap.objs.size f c')) → DE (lamN X A outer s H E scope f c') (fun _ => E) σd body mb) :
    DE X E σd (.Call (.Name "_law_refused" p) [.Lambda params body scope lpos] [] pos) (tabC j x q >>= fun _ => catchM cls mErr mb) := by
  refine ⟨⟨fun pins s σ H Q I ⟨W, st, hh, hs, h⟩ => ?_⟩⟩
  rcases tabC_cases j x q st with ⟨hj, e⟩ | e
  · rw [bind_ok e] at h
    obtain ⟨P, hP⟩ : ∃ P, W.mu[j]? = some P := ⟨_, List.getElem?_eq_getElem (by rw [hh.len]; exact (List.getElem?_eq_some_iff.mp hj).1)⟩
    obtain ⟨u, ea, ps, hp, ht, hcs⟩ := hh.cell j _ P hj hP
    subst ea
    obtain ⟨oc, od, dV, kV, doc, pm, an, cdv, ct, osl, rfl, lk, hcd, hD, _⟩ := G.ex
    obtain ⟨fe, fde, hmE, hkE, hbE, hE⟩ := R.ex
    refine wpAny_Call_Name_kw (ld_glob I hgl hm ?_ (by decide))
    refine PySem.W.callWith_K (h₀ := X.base) I.ok.mod.kin G.kp ?_ (by rfl) (by rfl)
    show wpAny _ _ (spliced ((false, eval (.Lambda params body scope lpos) X.env) :: backTo pos (starEach [] X.env))) _ _ s
    refine Calls.spliced_cons (lam_mk I TB hcode hq hp ht (fun pos cv hc => let ⟨c, q1, _, q3⟩ := hcs pos cv hc; ⟨c, q1, q3⟩) hdef (L.has I.ok) fun f c' pm' ctv H1 s' I1 gr hf hfn hfr hco => ?_)
    refine Calls.spliced_nil ⟨I1.kIn, ?_⟩
    obtain ⟨e1, hh1⟩ := Holds.grown hh hj hP hp gr
    have h1 : Fin X.K W H1 (E σ) (catchM cls mErr mb st) Q := h.shift e1
    have hb1 : Binds X.K _ ["call"] [] := G.bindsN hbg
    have rc : codeAny (model X.prog X.w) X.A (.call (.ref g) ⟨[.ref f], []⟩) (CR (L2N.CX X.prog X.w) X.stack X.prog X.w H1 s' Q (fun _ _ _ => False)) s' := by
      refine run_ofS (N := ["call", "e"]) (ps := ["call"]) (us := [.ref f]) (vs := [.ref f]) lk hcd Sg hr I1.env0 (hb1 s' [.ref f] I1.kIn rfl) (.cons rfl .nil) rfl fun hr' => ?_
      let Z := cxOf (L2N.CX X.prog X.w) X.prog X.w X.K X.mg X.base ["call", "e"] "_law_refused" sg g cdv X.A X.stack s' H1 (fun _ _ _ => False)
      let ts : Addr → Value → Option Addr → TS := fun a cl d D τ G => ∃ c ∈ cls, cl = .ref (He.ga X.K c) ∧ d = none ∧ (1 < τ.length → τ[1]? = some (some (.ref a))) ∧ ∃ (W2 : Wd) (st2 : Store), Holds X.K W2 G st2 ∧ Fin X.K W2 G (fun _ _ _ => False) (nox (mErr c) st2) D.rt
      let tb : WX → TS := fun Wx D τ G => ∃ Ech : XK, (∀ cl d σ' H', Ech cl d H' → Wx cl d σ' H') ∧ τ[0]? = some (some (.ref f)) ∧ G c' = some (CodeO c' q) ∧ tD X.K σd (fun _ => Ech) mb σ G (fun _ G' => D.nx τ G')
      have nd : (["call", "e"] : List Str).Nodup := by decide
      have tk0 : L2N.Takes Z (fun cl d _ H => (fun _ _ _ => False : XK) cl d H) := L2N.takes_of rfl rfl rfl rfl
      refine ⟨_, pss_cons (L2N.ps_try_as (X := Z) (x := "PushError") (n := "e") (c := .ref (He.ga X.K "PushError")) (i := 1) (tb := tb) (ts := ts) rfl rfl nd rfl hs3 ⟨hs1, by decide, .inl hPE⟩ tk0 (fun Wx pn xe tk _ => ?_) (fun a oe cl d pn hz hvs => ?_)) (pss_one (ps_ret pe_str)), ?_⟩
      · exact ⟨fun pz sz τ G Dn J0 ⟨Ech, hW, g1, g2, g3⟩ => (pss_one (ps_expr (pe_actN (i := 0) I1 L hq hf hfn hfr (hbind _ _ _ _ _) tk hW hr' (fun A outer s H hr2 => (hbody A outer s H Ech f c' hr2).pe) rfl hs4 (by decide) (by decide)))).run pz sz τ G Dn J0 ⟨g1, g2, g3⟩⟩
      · refine ⟨fun pz sz τ G Dn J0 ⟨c, hc, c1, c2, g1, W2, st2, hh2, g2⟩ => ?_⟩
        subst c1 c2
        obtain ⟨vs, hv⟩ := hvs
        have hl : τ.length = 2 := J0.len
        exact (pss_one (ps_ret (pe_callP (X := Z.suite a ((a, oe) :: pn)) (i := 1) (e := "e") (x := "_law_error") (p := (a, oe)) (c := c) (m := nox (mErr c)) List.mem_cons_self ⟨rfl, vs, hv, hz.2.2 vs hv⟩ hz.zc ⟨fun A outer s H args u Q p W st q1 q2 q3 q4 q5 q6 q7 q8 q9 => (hE c hc).1.run A outer s H args u Q p W st q1 q2 q3 q4 q5 q6 q7 q8 (After.nox q9 _)⟩ ((⟨hr'.dp, hr'.un⟩ : L2H.RoomH (k + 1) (Z.suite a ((a, oe) :: pn)).A).mono hke) hs2 hmE hkE hbE rfl (.inl hs3) (by decide) (by decide) (by decide) rfl))).run pz sz τ G Dn J0 ⟨g1 (by omega), W2, st2, hh2, g2⟩
      · refine ⟨fun cl d G => ∃ c ∈ cls, cl = .ref (He.ga X.K c) ∧ d = none ∧ ∃ (W2 : Wd) (st2 : Store), Holds X.K W2 G st2 ∧ Fin X.K W2 G (fun _ _ _ => False) (nox (mErr c) st2) Q, fun cl d σ' H' ⟨c, hc, c1, c2, W2, st2, hh2, g2⟩ => ?_, rfl, hco, W, st, hh1, hs.ext e1, ?_⟩
        · subst c1
          exact ⟨true, (hE c hc).2, fun _ a _ => ⟨c, hc, rfl, c2, fun hl => List.getElem?_set_self (by simpa using hl), W2, st2, hh2, g2⟩, fun z => nomatch z⟩
        · unfold catchM at h1
          cases hm : mb st with
          | ok d st' =>
            rw [hm] at h1
            exact fun W' H' e2 hh2 v r => h1 W' H' e2 hh2 _ ⟨rfl, by decide⟩
          | exc ee st' =>
            rw [hm] at h1
            have h2 : Fin X.K W H1 (E σ) (if (cls.contains ee.cls && ee.fs.isEmpty) = true then nox (mErr ee.cls) st' else .stuck) Q := h1
            by_cases hcond : (cls.contains ee.cls && ee.fs.isEmpty) = true
            · rw [if_pos hcond] at h2
              rw [Bool.and_eq_true] at hcond
              have hcl : ee.cls ∈ cls := by simpa using hcond.1
              have hfs : ee.fs = [] := by simpa using hcond.2
              intro W' H' C d e2 hh2 hx
              refine ⟨ee.cls, hcl, hx.1, ?_, W', st', hh2, ?_⟩
              · rcases hx.2 with z | z
                · exact z.2
                · exact absurd hfs z.1
              · have h3 := h2.shift e2
                have nn : nox (nox (mErr ee.cls)) = nox (mErr ee.cls) := by
                  funext st3
                  unfold nox
                  cases mErr ee.cls st3 <;> rfl
                rw [← nn] at h3
                exact After.nox h3 _
            · rw [if_neg hcond] at h2
              exact h2.elim
          | stuck =>
            rw [hm] at h1
            exact h1.elim
    refine wpAny_call (codeAny_mono rc fun r s2 hq => ?_)
    cases r with
    | error e =>
      obtain ⟨_, _, _, _, _, _, _, _, _, _, _, _, z⟩ := hq
      exact z.elim
    | ok fl =>
      cases fl with
      | ret u => exact I1.after hq
      | next => exact False.elim hq
      | brk => exact False.elim hq
      | cont => exact False.elim hq
  · rw [bind_stuck e] at h
    exact h.elim
end
end DH
set_option maxHeartbeats 2000000
/-! DH6: comprehensions while an error is handled, on data; local names that hold defs. -/
namespace DH
open PySem PySem.Spec PyProof.Rows L2 HotX DL LamX

def asF : D → M (List D)
  | .lst xs => pure xs
  | _ => M.stuck
section
variable {X : Cx} {E : DL.St → XK} {σd : List Sl} {p : Addr × Obj} {tg iter elt : Expr} {ifs : List Expr} {scope : Scope} {pos : Pos} {mi : M D} {own : List (Str × Nat)} {P : Type} {dec : D → Option P} {up : P → List Sl → List Sl} {test : P → M Bool} {me : P → M D} {fin : List D → M D} {g : TG} {ix : List Nat}
theorem de_lcH (hf : FinOk X.K fin) (hot : L2H.Hot1 X.A p) (hpn : p ∈ X.pn) (hN : X.N.Nodup) (hg : GOk X.K g ix dec up) (hix : ∀ i ∈ ix, i ∈ own.map (·.2)) (hi : DE X E σd iter mi) (ok : BlkOk X.N X.env.scope scope own)
    (hp : ∀ (s : Shared) (H : Hp) (C : Addr) (cl : List (Str × Addr)) (fp : List Addr), PGp (X.blk s H scope (compEnvC scope cl C X.env) fp) p tg g)
    (ht : ∀ (s : Shared) (H : Hp) (C : Addr) (cl : List (Str × Addr)) (fp : List Addr) (q : P), DTs (X.blk s H scope (compEnvC scope cl C X.env) fp) E0' (up q (wipeD σd (own.map (·.2)))) ifs (test q))
    (he : ∀ (s : Shared) (H : Hp) (C : Addr) (cl : List (Str × Addr)) (fp : List Addr) (q : P), DE (X.blk s H scope (compEnvC scope cl C X.env) fp) E0' (up q (wipeD σd (own.map (·.2)))) elt (me q))
    (hs : ∀ x, foldedSetIterable iter X.env x = pure x) :
    DE X E σd (.ListComp elt [⟨tg, iter, ifs, 0⟩] scope pos) (mi >>= fun d => asF d >>= fun ds => compM dec test me ds >>= fin) := by
  refine ⟨pe_imp (pe_lcP (own := own) (tt := fun σ H Q => ∃ q, tDT X.K (up q (wipeD σd (own.map (·.2)))) E0' (test q) σ H Q) (te := fun σ H Q => ∃ q, tD X.K (up q (wipeD σd (own.map (·.2)))) E0' (me q) σ H Q) hot hpn hN (pip_list hi.pe) ok hp (fun s H C cl fp => pts_ex fun q => (ht s H C cl fp q).pts) (fun s H C cl fp => pe_ex fun q => (he s H C cl fp q).pe) hs) fun σ H Q ⟨W, st, hh, hs, h⟩ => ?_⟩
  refine tD_run hh hs h fun d v W1 H1 st1 e1 hh1 hs1 r1 h1 => ?_
  cases d with
  | lst xs =>
    obtain ⟨a, vs, rfl, nu, ha, hz, r⟩ := r1
    have h2 : Fin X.K W1 H1 (E σ) ((compM dec test me xs >>= fin) st1) Q := h1
    exact ⟨a, rfl, ⟨vs, SqL.of ha⟩, comp_readsF hf hg hix (walks_list nu ha r) hz hh1 hs1 h2⟩
  | _ => exact h1.elim
end
/-! ### a local name that holds a def -/
def lookD (cands : List (Str × (List D → M D))) : D → M (List D → M D)
  | .fn x => ofO (cands.lookup x)
  | _ => M.stuck
section
variable {X : Cx} {E : DL.St → XK} {σd : List Sl} {e : Expr} {es : List Expr} {m : M (List D)} {pos p : Pos} {k n i : Nat} {x : Str} {d : D}
theorem de_callD {cands : List (Str × (List D → M D))} (hi : σd[i]? = some (.val d)) (hN : X.N[i]? = some x) (hv : Vis X.env.scope x) (hC : ∀ y mf, cands.lookup y = some mf → CalD X.prog X.w X.K X.mg X.base k y n mf ∧ X.mg y = some (.ref (He.ga X.K y)) ∧ ∀ ds st, ds.length ≠ n → mf ds st = .stuck)
    (hr : Room k X.A) (hx : ∀ σ, PassesAt (L2N.CX X.prog X.w) X σ (E σ)) (ha : DA X E σd (e :: es) m) (hdb : (x == ("__debug__" : Str)) = false) (hcd : (x == ("__classdict__" : Str)) = false) (he : starEach (e :: es) X.env = (false, eval e X.env) :: starEach es X.env) (hpl : (backTo pos (starEach es X.env)).any (·.1) = false) :
    DE X E σd (.Call (.Name x p) (e :: es) [] pos) (lookD cands d >>= fun mf => m >>= mf) := by
  refine ⟨⟨fun pins s σ H Q I ⟨W, st, hh, hs, h⟩ => ?_⟩⟩
  cases d with
  | fn y =>
    obtain ⟨mf, hy, h1⟩ := ofO_run h
    obtain ⟨c, hmy, hst⟩ := hC y mf hy
    obtain ⟨f, fd, ps, F, hm, hk, hb, hps⟩ := c.ex
    rw [hmy] at hm
    cases hm
    obtain ⟨v, q1, q2⟩ := hs.val i _ hi
    have q2' : v = .ref (He.ga X.K y) := q2
    subst q2'
    refine wpAny_Call_Name_kw (thn ((pe_var (pos := p) hN hv hdb hcd).run pins s σ H (fun v H1 => v = .ref (He.ga X.K y) ∧ H1 = H) I ⟨_, q1, rfl, rfl⟩) fun u s1 ⟨v, H1, I1, r1, ev, eH⟩ => ?_)
    subst ev
    rw [eH] at I1
    obtain rfl : u = Value.ref (He.ga X.K y) := r1
    refine PySem.W.callWith_K (h₀ := X.base) I.ok.mod.kin hk (thn (ha.pa.run pos pins s1 σ H (fun vs H1 => SpD X.K n mf (vs ++ []) H1 Q (E σ)) I1 ⟨W, st, hh, hs, (After.next hs hh h1).mono fun ds W1 H1 st1 _ _ _ ⟨e1, hh1, hs2, h1⟩ vs r1 => ?_⟩) fun us s2 ⟨vs, H2, I2, r, q⟩ => ⟨I2.kIn, ?_⟩) he hpl
    · show SpD X.K n mf (vs ++ []) H1 Q (E σ)
      rw [List.append_nil]
      refine ⟨?_, W1, st1, ds, hh1, r1, h1⟩
      by_cases hd : ds.length = n
      · exact r1.length.trans hd
      · have h1' : After X.K W1 H1 (E σ) (mf ds st1) _ := h1
        rw [hst ds st1 hd] at h1'
        exact h1'.elim
    · exact run_fnSD F hr hb .nil (hx σ) I2 r q
  | _ => exact h.elim
end
end DH
namespace DH
open PySem PySem.Spec PyProof.Rows L2 HotX DL LamX
theorem candN {Pp : Str → (List D → M D) → Prop} : ∀ (y : Str) (mf : List D → M D), ([] : List (Str × (List D → M D))).lookup y = some mf → Pp y mf := fun y mf h => by cases h
theorem candC {Pp : Str → (List D → M D) → Prop} {x : Str} {g : List D → M D} {l : List (Str × (List D → M D))} (h : Pp x g) (r : ∀ y mf, l.lookup y = some mf → Pp y mf) : ∀ (y : Str) (mf : List D → M D), ((x, g) :: l).lookup y = some mf → Pp y mf := fun y mf hy => by
  rw [List.lookup_cons] at hy
  by_cases e : (y == x) = true
  · rw [e] at hy
    cases hy
    rw [beq_iff_eq.mp e]
    exact h
  · rw [Bool.not_eq_true] at e
    rw [e] at hy
    exact r y mf hy
def lamQ (x : Str) : Str := (x ++ ".<locals>.") ++ "<lambda>"
theorem hu65H {k : Nat} {A : Around} (r : L2H.RoomH k A) : A.units + 65 < cLine := by
  have := r.un
  omega
theorem hu64H {k : Nat} {A : Around} (r : L2H.RoomH k A) : A.units + 64 < cLine := by
  have := r.un
  omega
end DH
set_option maxHeartbeats 4000000
/-! DH7: t[::-1], a tuple. -/
namespace DH
open PySem PySem.Spec PyProof.Rows L2 HotX DL LamX HT

section
variable {prog : Program} {w : World} {A : Around} {E : Value → Shared → Prop} {s : Shared}
theorem applied_rev {sl : Addr} {vs : Value} {n : Nat} {Q : Int × Int × Nat → Shared → Prop} (hs : s.heap.IsSliceOf sl .none .none vs) (ps : IsPart vs (some (-1))) (h : Q ((n : Int) - 1, -1, n) s) : wpAny (model prog w) A (Builtin.Slice.sliceApplied (.ref sl) (pure (n : Int))) Q E s := by
  obtain ⟨os, hos, hcs, hds⟩ := id hs
  unfold Builtin.Slice.sliceApplied Builtin.Slice.sliceFields
  refine wpAny_bind (wpAny_bind (wpAny_field hos hds (x := .none) rfl (wpAny_bind (wpAny_field hos hds (x := .none) rfl (wpAny_bind (wpAny_field hos hds (x := vs) rfl (wpAny_pure ?_)))))))
  refine wpAny_bind (slicePart_ ps ?_)
  show wpAny _ _ (if ((-1 : Int) == 0) = true then _ else _) _ _ s
  rw [if_neg (by decide)]
  refine wpAny_bind (slicePart_none (wpAny_bind (slicePart_none (wpAny_bind (wpAny_pure ?_)))))
  show wpAny _ _ (pure ((n : Int) - 1, (-1 : Int), Builtin.Slice.slicePlaces ((n : Int) - 1) (-1) (-1))) _ _ s
  have e : Builtin.Slice.slicePlaces ((n : Int) - 1) (-1) (-1) = n := by
    unfold Builtin.Slice.slicePlaces
    rw [if_neg (by decide)]
    by_cases hn : n = 0
    · subst hn; rfl
    · rw [if_pos (by omega)]
      have : ((n : Int) - 1 - -1 - 1) / (- -1) + 1 = n := by
        rw [show (- -1 : Int) = 1 by decide, Int.ediv_one]
        omega
      rw [this]
      rfl
  rw [e]
  exact wpAny_pure h
theorem fm_congr {α β : Type} {f g : α → Option β} : ∀ {l : List α}, (∀ m ∈ l, f m = g m) → l.filterMap f = l.filterMap g
  | [], _ => rfl
  | a :: l, h => by
    rw [List.filterMap_cons, List.filterMap_cons, h a List.mem_cons_self, fm_congr fun m hm => h m (List.mem_cons_of_mem _ hm)]
theorem pick_rev (xs : Array Value) : ((List.range xs.size).filterMap fun (m : Nat) => xs[(((xs.size : Int) - 1) + (m : Int) * -1).toNat]?).toArray = xs.toList.reverse.toArray := by
  have e : ((List.range xs.size).filterMap fun (m : Nat) => xs[(((xs.size : Int) - 1) + (m : Int) * -1).toNat]?) = xs.toList.reverse := by
    have h1 : ((List.range xs.size).filterMap fun (m : Nat) => xs[(((xs.size : Int) - 1) + (m : Int) * -1).toNat]?) = ((List.range xs.size).map fun m => xs.size - 1 - m).filterMap (xs[·]?) := by
      rw [List.filterMap_map]
      refine fm_congr fun m hm => ?_
      have := List.mem_range.mp hm
      show xs[(((xs.size : Int) - 1) + (m : Int) * -1).toNat]? = xs[xs.size - 1 - m]?
      congr 1
      omega
    rw [h1, PySem.W.krv_range, List.filterMap_reverse, PySem.W.krv_all]
  rw [e]
theorem getItem_rev {t sl : Addr} {items : Array Value} {vs : Value} {Q : Value → Shared → Prop} (ht : IsTup s.heap t items) (hs : s.heap.IsSliceOf sl .none .none vs) (ps : IsPart vs (some (-1)))
    (h : Q (.ref s.heap.objs.size) { s with heap := s.heap.push { cls := .type "tuple", data := .seq items.toList.reverse.toArray } }) (hsz : items.size ≤ sizeLine) : wpAny (model prog w) A (getItem (.ref t) (.ref sl)) Q E s := by
  have hz : sizeOk (.seq items.toList.reverse.toArray) := by
    show items.toList.reverse.toArray.size ≤ sizeLine
    rw [List.size_toArray, List.length_reverse, Array.length_toList]
    exact hsz
  obtain ⟨os, hos, hcs, hds⟩ := id hs
  have hTs : s.TypeIs (.ref sl) "slice" := ⟨os, hos, hcs⟩
  unfold getItem
  try with_reducible refine wpAny_holding ?_
  first | refine wpAny_bind (wpAny_pure ?_) | skip
  refine wpAny_bind (wpAny_sequenceKey ht.typeIs (by decide) (wpAny_bind (wpAny_callSpecial?_slot (name := Str.ofString "__getitem__") ht.typeIs PyProof.Rows.slot_tuple_getitem (wpAny_call_entry PyProof.Rows.slot_tuple_getitem ht.typeIs entry_tuple_getitem ?_ (args_tuple_getitem _ _)))))
  show wpAny _ _ (Builtin.Tuple.tupleItemsOf (.ref t) >>= _) _ _ s
  refine wpAny_bind (tupleItemsOf_ ht (wpAny_bind (wpAny_typeOf hTs ?_)))
  rw [if_pos (by decide)]
  refine wpAny_bind (applied_rev hs ps ?_)
  show wpAny _ _ (if (((items.size : Int) - 1) == 0 && (-1 : Int) == 1 && items.size == items.size) = true then _ else _) _ _ s
  rw [if_neg (by simp), pick_rev]
  first
    | exact wpAny_bind (m := Builtin.Tuple.tupleExact _) (wpAny_newObj_type (wpAny_pure ⟨_, rfl, wpAny_pure h⟩) hz)
    | exact wpAny_bind (m := Builtin.Tuple.tupleExact _) (wpAny_newObj_type (wpAny_bind (wpAny_pure (wpAny_pure ⟨_, rfl, wpAny_pure h⟩))) hz)
    | exact wpAny_bind (wpAny_bind (m := Builtin.Tuple.tupleExact _) (wpAny_newObj_type (wpAny_pure (wpAny_pure ⟨_, rfl, wpAny_pure h⟩)) hz))
    | exact wpAny_bind (wpAny_bind (m := Builtin.Tuple.tupleExact _) (wpAny_newObj_type (wpAny_pure ⟨_, rfl, wpAny_pure h⟩) hz))
end
section
variable {X : Cx} {E : DL.St → XK} {σd : List Sl} {e : Expr} {te : TE} {me : M D} {pos p1 p2 p3 : Pos} {k : Nat}
theorem pe_revT (he : PE X e te) : PE X (.Subscript e (.Slice none none (some (.UnaryOp .USub (.Constant (.int 1) k p1) p2)) p3) pos) (fun σ H Q => te σ H fun x H1 => ∃ a xs, x = .ref a ∧ SqT X.K H1 a xs ∧ ∀ p, H1 p = none → Q (.ref p) (upd H1 p (.tup xs.reverse))) := by
  refine ⟨fun pins s σ H Q I h => Subscript_ (thn (he.run pins s σ H _ I h) fun v s1 ⟨x, H1, I1, r1, a, xs, ex, hx, q⟩ => ?_)⟩
  subst ex
  cases r1
  have hst : PO X (some (.UnaryOp .USub (.Constant (.int 1) k p1) p2)) (tPart (tUn (rU fun i => .int (-i)) (tC (.int 1)))) := po_some (pe_un un_neg pe_int)
  refine wpAny_Slice (thn (po_none.run pins s1 σ H1 (fun o H2 => o = none ∧ H2 = H1) I1 ⟨rfl, rfl⟩) fun vl s2 ⟨l, H2, I2, pl, el, e2⟩ => thn (po_none.run pins s2 σ H2 (fun o H3 => o = none ∧ H3 = H2) I2 ⟨rfl, rfl⟩) fun vu s3 ⟨u, H3, I3, pu, eu, e3⟩ => ?_)
  subst el e2 eu e3
  refine thn (hst.run pins s3 σ H3 (fun o H4 => o = some (-1) ∧ H4 = H3) I3 ⟨1, rfl, -1, rfl, rfl, rfl⟩) fun vs s4 ⟨o, H4, I4, ps, eo, e4⟩ => ?_
  subst eo e4
  cases pl
  cases pu
  have I5 : Inv X pins σ H4 { s4 with heap := s4.heap.push { cls := .type "slice", data := .fields #[.none, .none, vs] } } := I4.kept (t' := s4.toks) fun b ob q => Heap.get?_push_of_some _ q
  obtain ⟨its, r, ht, hz⟩ := I5.tuple hx
  have hlen := r.length
  show wpAny (model X.prog X.w) X.A (subscriptTail e (.Slice none none (some (.UnaryOp .USub (.Constant (.int 1) k p1) p2)) p3) (.ref a) (.ref s4.heap.objs.size)) (EP X pins σ Q) X.xe { s4 with heap := s4.heap.push { cls := .type "slice", data := .fields #[.none, .none, vs] } }
  refine tail_any (ops := [.ref a, .ref s4.heap.objs.size]) ht.typeIs PyProof.Rows.slot_tuple_getitem.lookup ?_ (by with_unfolding_all rfl)
  refine getItem_rev ht (Heap.IsSliceOf.new _ .none .none vs) ps ?_ (by rw [List.size_toArray]; omega)
  exact ⟨.ref _, _, I5.laid (t' := s4.toks) (o := .tup xs.reverse) (fun b ob q => Heap.get?_push_of_some _ q) (Nat.le_refl _) ⟨by rw [List.length_reverse]; exact hz, _, r.reverse, IsTup.new _ _⟩, rfl, q _ (I5.hok.fresh (Nat.le_refl _))⟩
def dRevT : D → M D
  | .tup xs => pure (.tup xs.reverse)
  | _ => M.stuck
theorem de_revT (he : DE X E σd e me) : DE X E σd (.Subscript e (.Slice none none (some (.UnaryOp .USub (.Constant (.int 1) k p1) p2)) p3) pos) (me >>= dRevT) :=
  ⟨pe_imp (pe_revT he.pe) fun σ H Q ⟨W, st, hh, hs, h⟩ => tD_run hh hs h fun d v W1 H1 st1 e1 hh1 hs1 r1 h1 => by
    cases d with
    | tup xs =>
      obtain ⟨a, vs, rfl, ha, r⟩ := Rep.tupSq r1
      exact ⟨a, vs, rfl, ha, fun p hp => Fin.newT (xs := xs.reverse) h1 hh1 hp r.reverse (by rw [List.length_reverse]; exact Rep.tupLen r1)⟩
    | _ => exact h1.elim⟩
end
end DH
/-! DH8: the facts of the head; the law's start. -/
namespace DH
open PySem PySem.Spec PyProof.Rows L2 HotX DL LamX

def excCB (K : PySem.W.Frag) (C : Addr) : Bool := He.eqO (PySem.W.findIn K (.ref C) "__getattribute__") (some (some (.builtin "BaseException.__getattribute__"))) && (He.eqO (PySem.W.findIn K (.ref C) "__getattr__") (some none) && (decide (PySem.W.subIn K (.ref C) (.type "BaseException") = some true) && (PySem.W.hasDictIn K C &&
  (He.eqO (PySem.W.findIn K (.ref C) "__class__") (some (some (.builtin "object.__class__"))) && (He.eqO (PySem.W.specialIn K (.builtin "object.__class__") "__get__") (some (some (.builtin "getset_descriptor.__get__"))) && (decide (PySem.W.takesIn K (.builtin "object.__class__") = some true) && decide (PySem.W.mroIn K C (.type "object") = some true)))))))
theorem band {a b : Bool} (h : (a && b) = true) : a = true ∧ b = true := by rw [Bool.and_eq_true] at h; exact h
theorem excCB_ok {K : PySem.W.Frag} {C : Addr} (h : excCB K C = true) : ExcC K C := by
  obtain ⟨h1, h⟩ := band h
  obtain ⟨h2, h⟩ := band h
  obtain ⟨h3, h⟩ := band h
  obtain ⟨h4, h⟩ := band h
  obtain ⟨h5, h⟩ := band h
  obtain ⟨h6, h⟩ := band h
  obtain ⟨h7, h8⟩ := band h
  exact ⟨He.eqO_ok h1, He.eqO_ok h2, of_decide_eq_true h3, h4, He.eqO_ok h5, He.eqO_ok h6, of_decide_eq_true h7, of_decide_eq_true h8⟩
theorem errC_of {K : PySem.W.Frag} {mg : Str → Option Value} {x : Str} (c : (He.Fa.exc x).ok K = true) (g : mg x = some (.ref (He.ga K x))) : ErrC K mg x := by
  obtain ⟨h1, h2, h3, h4⟩ := He.exc_ok c
  exact ⟨_, _, _, _, PySem.F.excBase_ValueError, h1, g, h2, h3, h4⟩
def kitEB (K : PySem.W.Frag) (c y : Str) (b : Bool) : Bool := decide (PySem.W.kitOne K (.ref (He.ga K c)) (.ref (He.ga K y)) = some b)
/-- the law is called: the tables stand empty, the script is there -/
theorem sp_start {K : PySem.W.Frag} {H : Hp} {a : Addr} {ns : List Int} {tabs : List (Str × Str)} {m : D → M D} (nd : (tabs.map fun t => (He.cT K (t.1, none)).2).Nodup) (hT : ∀ t ∈ tabs, H (He.cT K (t.1, none)).2 = some (.tbl #[])) (hS : SqL K H a (ns.map V.int))
    (hm : ∃ st', m (.scr ns) (tabs.map fun t => Cell.tab t.1 t.2) = .ok (.bl true) st') : SpD K 1 (mk1 m) [.ref a] H (fun v _ => v = .bl true) fun _ _ _ => False := by
  obtain ⟨st', hm⟩ := hm
  refine ⟨rfl, ⟨tabs.map fun t => (He.cT K (t.1, none)).2, fun b => b ∈ tabs.map fun t => (He.cT K (t.1, none)).2⟩, tabs.map fun t => Cell.tab t.1 t.2, [.scr ns], ?_, ⟨_, _, rfl, ?_, rfl⟩, ?_⟩
  · refine ⟨by simp, nd, fun b hb => ?_, fun b hb => ?_, fun i c b h1 h2 => ?_⟩
    · obtain ⟨t, ht, rfl⟩ := List.mem_map.mp hb
      exact ⟨_, hT t ht⟩
    · obtain ⟨t, ht, rfl⟩ := List.mem_map.mp hb
      exact ⟨_, hT t ht⟩
    · rw [List.getElem?_map] at h1 h2
      cases q : tabs[i]? with
      | none => rw [q] at h1; cases h1
      | some t =>
        rw [q] at h1 h2
        cases h1
        cases h2
        have ht := List.mem_of_getElem? q
        exact ⟨List.mem_map.mpr ⟨t, ht, rfl⟩, rfl, #[], hT t ht, trivial, fun pos cv hc => by
          have z : codeAmong pos [] = some cv := hc
          simp [codeAmong] at z⟩
  · have nu : (∃ o, (o = HO.lst (ns.map V.int) ∨ ∃ ob, o = .frz ob (.lst (ns.map V.int))) ∧ H a = some o) → a ∉ tabs.map fun t => (He.cT K (t.1, none)).2 := fun ⟨o, ho, e⟩ hm => by
      obtain ⟨t, ht, rfl⟩ := List.mem_map.mp hm
      rw [hT t ht] at e
      cases e
      rcases ho with ho | ⟨_, ho⟩ <;> cases ho
    rcases hS with h1 | h1
    · have h2 : ∃ o, (o = HO.lst (ns.map V.int) ∨ ∃ ob, o = .frz ob (.lst (ns.map V.int))) ∧ H a = some o := by
        rcases h1 with h1 | ⟨o, h1⟩
        · exact ⟨_, .inl rfl, h1⟩
        · exact ⟨_, .inr ⟨o, rfl⟩, h1⟩
      exact ⟨a, rfl, .inl ⟨nu h2, h2⟩⟩
    · exact ⟨a, rfl, .inr (.inr h1)⟩
  · show After K _ H _ (mk1 m [.scr ns] _) _
    have e : mk1 m [.scr ns] (tabs.map fun t => Cell.tab t.1 t.2) = .ok (.bl true) st' := hm
    rw [e]
    exact fun W' H' _ _ v r => r
end DH
set_option maxHeartbeats 0
namespace My
open PySem PySem.Spec PyProof.Rows L2 DL DH
def top (i : Nat) : Stmt := PySem.Challenge.pw_signpushes_k01_models_sizes_and_fillings.main.body.getD i (.Pass ⟨0, 0, 0, 0⟩)
def k_KNOWN_SIGNS : D := (.tup [(.str [43]), (.str [45]), (.str [48])])
def errCls : List Str := ["InvalidModel"]
def errTests : List Str := ["InvalidLot", "InvalidModel", "InvalidPlace", "InvalidQuantity", "InvalidSeen", "InvalidSign", "InvalidSizes", "InvalidText", "NothingToUndo", "TooMany", "Unlike"]
def isEc (c y : Str) : Bool := c == y
structure Fx (P : Program) (w : World) (K : PySem.W.Frag) (mg : Str → Option Value) (base : Heap) : Prop where
  b_all : mg "all" = none
  b_bool : mg "bool" = none
  b_enumerate : mg "enumerate" = none
  b_int : mg "int" = none
  b_isinstance : mg "isinstance" = none
  b_len : mg "len" = none
  b_list : mg "list" = none
  b_max : mg "max" = none
  b_min : mg "min" = none
  b_range : mg "range" = none
  b_sorted : mg "sorted" = none
  b_str : mg "str" = none
  b_sum : mg "sum" = none
  b_tuple : mg "tuple" = none
  g_is_within : mg "is_within" = some (.ref (He.ga K "is_within"))
  g_is_row : mg "is_row" = some (.ref (He.ga K "is_row"))
  g_is_right_model : mg "is_right_model" = some (.ref (He.ga K "is_right_model"))
  g_are_right_sizes : mg "are_right_sizes" = some (.ref (He.ga K "are_right_sizes"))
  g_need_model : mg "need_model" = some (.ref (He.ga K "need_model"))
  g_unknown_places : mg "unknown_places" = some (.ref (He.ga K "unknown_places"))
  g_with_sign : mg "with_sign" = some (.ref (He.ga K "with_sign"))
  g_all_fillings : mg "all_fillings" = some (.ref (He.ga K "all_fillings"))
  g_is_model : mg "is_model" = some (.ref (He.ga K "is_model"))
  g_are_sizes : mg "are_sizes" = some (.ref (He.ga K "are_sizes"))
  g_fillings : mg "fillings" = some (.ref (He.ga K "fillings"))
  g_unknown : mg "unknown" = some (.ref (He.ga K "unknown"))
  g__law_source : mg "_law_source" = some (.ref (He.ga K "_law_source"))
  g__law_pick : mg "_law_pick" = some (.ref (He.ga K "_law_pick"))
  g__law_chosen : mg "_law_chosen" = some (.ref (He.ga K "_law_chosen"))
  g__law_is_bool : mg "_law_is_bool" = some (.ref (He.ga K "_law_is_bool"))
  g__law_any_value : mg "_law_any_value" = some (.ref (He.ga K "_law_any_value"))
  g__law_variant : mg "_law_variant" = some (.ref (He.ga K "_law_variant"))
  g__law_whole : mg "_law_whole" = some (.ref (He.ga K "_law_whole"))
  g__law_error : mg "_law_error" = some (.ref (He.ga K "_law_error"))
  g__law_refused : mg "_law_refused" = some (.ref (He.ga K "_law_refused"))
  g__law_by_one : mg "_law_by_one" = some (.ref (He.ga K "_law_by_one"))
  g__law_by_two : mg "_law_by_two" = some (.ref (He.ga K "_law_by_two"))
  g__law_drawn_model : mg "_law_drawn_model" = some (.ref (He.ga K "_law_drawn_model"))
  g__law_filled : mg "_law_filled" = some (.ref (He.ga K "_law_filled"))
  g__law_good_model : mg "_law_good_model" = some (.ref (He.ga K "_law_good_model"))
  g__law_good_sizes : mg "_law_good_sizes" = some (.ref (He.ga K "_law_good_sizes"))
  g__law_hidden : mg "_law_hidden" = some (.ref (He.ga K "_law_hidden"))
  g__law_drawn_sizes : mg "_law_drawn_sizes" = some (.ref (He.ga K "_law_drawn_sizes"))
  g_law : mg "law" = some (.ref (He.ga K "law"))
  d_is_within : ∃ fd, FunD K "is_within" "is_within" (defArgs (top 19)) (defBody (top 19)) (defScope (top 19)) [] [] (He.ga K "is_within") fd
  d_is_row : ∃ fd, FunD K "is_row" "is_row" (defArgs (top 20)) (defBody (top 20)) (defScope (top 20)) [] [] (He.ga K "is_row") fd
  d_is_right_model : ∃ fd, FunD K "is_right_model" "is_right_model" (defArgs (top 21)) (defBody (top 21)) (defScope (top 21)) [] [] (He.ga K "is_right_model") fd
  d_are_right_sizes : ∃ fd, FunD K "are_right_sizes" "are_right_sizes" (defArgs (top 22)) (defBody (top 22)) (defScope (top 22)) [] [] (He.ga K "are_right_sizes") fd
  d_need_model : ∃ fd, FunD K "need_model" "need_model" (defArgs (top 23)) (defBody (top 23)) (defScope (top 23)) [] [] (He.ga K "need_model") fd
  d_unknown_places : ∃ fd, FunD K "unknown_places" "unknown_places" (defArgs (top 24)) (defBody (top 24)) (defScope (top 24)) [] [] (He.ga K "unknown_places") fd
  d_with_sign : ∃ fd, FunD K "with_sign" "with_sign" (defArgs (top 25)) (defBody (top 25)) (defScope (top 25)) [] [] (He.ga K "with_sign") fd
  d_all_fillings : ∃ fd, FunD K "all_fillings" "all_fillings" (defArgs (top 26)) (defBody (top 26)) (defScope (top 26)) [] [] (He.ga K "all_fillings") fd
  d_is_model : ∃ fd, FunD K "is_model" "is_model" (defArgs (top 27)) (defBody (top 27)) (defScope (top 27)) [] [] (He.ga K "is_model") fd
  d_are_sizes : ∃ fd, FunD K "are_sizes" "are_sizes" (defArgs (top 28)) (defBody (top 28)) (defScope (top 28)) [] [] (He.ga K "are_sizes") fd
  d_fillings : ∃ fd, FunD K "fillings" "fillings" (defArgs (top 29)) (defBody (top 29)) (defScope (top 29)) [] [] (He.ga K "fillings") fd
  d_unknown : ∃ fd, FunD K "unknown" "unknown" (defArgs (top 30)) (defBody (top 30)) (defScope (top 30)) [] [] (He.ga K "unknown") fd
  d__law_source : ∃ fd, FunD K "_law_source" "_law_source" (defArgs (top 32)) (defBody (top 32)) (defScope (top 32)) [] [] (He.ga K "_law_source") fd
  d__law_pick : ∃ fd, FunD K "_law_pick" "_law_pick" (defArgs (top 33)) (defBody (top 33)) (defScope (top 33)) [] [] (He.ga K "_law_pick") fd
  d__law_chosen : ∃ fd, FunD K "_law_chosen" "_law_chosen" (defArgs (top 34)) (defBody (top 34)) (defScope (top 34)) [] [] (He.ga K "_law_chosen") fd
  d__law_is_bool : ∃ fd, FunD K "_law_is_bool" "_law_is_bool" (defArgs (top 35)) (defBody (top 35)) (defScope (top 35)) [] [] (He.ga K "_law_is_bool") fd
  d__law_any_value : ∃ fd, FunD K "_law_any_value" "_law_any_value" (defArgs (top 36)) (defBody (top 36)) (defScope (top 36)) [] [] (He.ga K "_law_any_value") fd
  d__law_variant : ∃ fd, FunD K "_law_variant" "_law_variant" (defArgs (top 37)) (defBody (top 37)) (defScope (top 37)) [] [] (He.ga K "_law_variant") fd
  d__law_whole : ∃ fd, FunD K "_law_whole" "_law_whole" (defArgs (top 38)) (defBody (top 38)) (defScope (top 38)) [] [] (He.ga K "_law_whole") fd
  d__law_error : ∃ fd, FunD K "_law_error" "_law_error" (defArgs (top 39)) (defBody (top 39)) (defScope (top 39)) [] [] (He.ga K "_law_error") fd
  d__law_refused : ∃ fd, FunD K "_law_refused" "_law_refused" (defArgs (top 40)) (defBody (top 40)) (defScope (top 40)) [] [] (He.ga K "_law_refused") fd
  d__law_by_one : ∃ fd, FunD K "_law_by_one" "_law_by_one" (defArgs (top 41)) (defBody (top 41)) (defScope (top 41)) [] [] (He.ga K "_law_by_one") fd
  d__law_by_two : ∃ fd, FunD K "_law_by_two" "_law_by_two" (defArgs (top 42)) (defBody (top 42)) (defScope (top 42)) [] [] (He.ga K "_law_by_two") fd
  d__law_drawn_model : ∃ fd, FunD K "_law_drawn_model" "_law_drawn_model" (defArgs (top 43)) (defBody (top 43)) (defScope (top 43)) [] [] (He.ga K "_law_drawn_model") fd
  d__law_filled : ∃ fd, FunD K "_law_filled" "_law_filled" (defArgs (top 44)) (defBody (top 44)) (defScope (top 44)) [] [] (He.ga K "_law_filled") fd
  d__law_good_model : ∃ fd, FunD K "_law_good_model" "_law_good_model" (defArgs (top 45)) (defBody (top 45)) (defScope (top 45)) [] [] (He.ga K "_law_good_model") fd
  d__law_good_sizes : ∃ fd, FunD K "_law_good_sizes" "_law_good_sizes" (defArgs (top 46)) (defBody (top 46)) (defScope (top 46)) [] [] (He.ga K "_law_good_sizes") fd
  d__law_hidden : ∃ fd, FunD K "_law_hidden" "_law_hidden" (defArgs (top 47)) (defBody (top 47)) (defScope (top 47)) [] [] (He.ga K "_law_hidden") fd
  d__law_drawn_sizes : ∃ fd, FunD K "_law_drawn_sizes" "_law_drawn_sizes" (defArgs (top 48)) (defBody (top 48)) (defScope (top 48)) [] [] (He.ga K "_law_drawn_sizes") fd
  d_law : ∃ fd, FunD K "law" "law" (defArgs (top 49)) (defBody (top 49)) (defScope (top 49)) [] [] (He.ga K "law") fd
  v_KNOWN_SIGNS : mg "KNOWN_SIGNS" = some (.ref (He.ga K "KNOWN_SIGNS"))
  r_KNOWN_SIGNS : ∀ W H, Rep K W H (.ref (He.ga K "KNOWN_SIGNS")) k_KNOWN_SIGNS
  v_MOST_QUANTITIES : ∃ t, mg "MOST_QUANTITIES" = some (.int (4) t)
  v_MOST_SIZE : ∃ t, mg "MOST_SIZE" = some (.int (1000000000000000000000000000000) t)
  v_MOST_UNKNOWN : ∃ t, mg "MOST_UNKNOWN" = some (.int (4) t)
  v_UNKNOWN : ∃ t, mg "UNKNOWN" = some (.str "?" t)
  e_InvalidModel : ErrC K mg "InvalidModel"
  x_err : ∀ c ∈ errCls, ExcC K (He.ga K c)
  k_err : ∀ c ∈ errCls, ∀ y ∈ errTests, PySem.W.kitOne K (.ref (He.ga K c)) (.ref (He.ga K y)) = some (isEc c y)
  p_err : ∀ c ∈ errCls, PySem.W.exmOne K (.ref (He.ga K c)) (.ref (He.ga K "PushError")) = some true
  g_InvalidLot : mg "InvalidLot" = some (.ref (He.ga K "InvalidLot"))
  g_InvalidModel : mg "InvalidModel" = some (.ref (He.ga K "InvalidModel"))
  g_InvalidPlace : mg "InvalidPlace" = some (.ref (He.ga K "InvalidPlace"))
  g_InvalidQuantity : mg "InvalidQuantity" = some (.ref (He.ga K "InvalidQuantity"))
  g_InvalidSeen : mg "InvalidSeen" = some (.ref (He.ga K "InvalidSeen"))
  g_InvalidSign : mg "InvalidSign" = some (.ref (He.ga K "InvalidSign"))
  g_InvalidSizes : mg "InvalidSizes" = some (.ref (He.ga K "InvalidSizes"))
  g_InvalidText : mg "InvalidText" = some (.ref (He.ga K "InvalidText"))
  g_NothingToUndo : mg "NothingToUndo" = some (.ref (He.ga K "NothingToUndo"))
  g_PushError : mg "PushError" = some (.ref (He.ga K "PushError"))
  g_TooMany : mg "TooMany" = some (.ref (He.ga K "TooMany"))
  g_Unlike : mg "Unlike" = some (.ref (He.ga K "Unlike"))
  t__law_by_one : LamX.TabB base mg (He.cT K ("_law_by_one", none)).1 (He.cT K ("_law_by_one", none)).2
  t__law_by_two : LamX.TabB base mg (He.cT K ("_law_by_two", none)).1 (He.cT K ("_law_by_two", none)).2
variable {P : Program} {w : World} {K : PySem.W.Frag} {mg : Str → Option Value} {base : Heap}
def mB_is_within (v_value v_low v_high : D) : M (Fl Empty Empty) :=
  ((vAnd ((pure v_value : M D) >>= mIsi .int) (vAnd (((pure v_value : M D) >>= mIsi .bool) >>= asB >>= fun b1 => pure (.bl (!b1))) (chM dLe dLe (pure v_low : M D) (pure v_value : M D) (pure v_high : M D)))) >>= fun d2 => pure (.ret d2))
def m_is_within (v_value v_low v_high : D) : M D := mB_is_within v_value v_low v_high >>= retM
theorem c_is_within (fx : Fx P w K mg base) : CalD P w K mg base 1 "is_within" 3 (mk3 m_is_within) := by
  have nd : (["value", "low", "high"] : List PySem.Str).Nodup := by decide
  obtain ⟨fd, F⟩ := fx.d_is_within
  refine (cal_of (N := ["value", "low", "high"]) (ps := ["value", "low", "high"]) (eN := eE) (k := 0) (mB := fun ds => match ds with | [v_value, v_low, v_high] => mB_is_within v_value v_low v_high | _ => M.stuck) F fx.g_is_within ⟨rfl, rfl, rfl, by decide, rfl, by decide, by decide⟩ (fun _ _ _ _ _ _ us hl => match us, hl with | [_, _, _], _ => rfl) (fun cdv A outer s H E ds hl hcd hr => ?_)).to ?_
  · match ds, hl with
    | [v_value, v_low, v_high], _ => exact (db_ret (de_and (de_isi (T := .int) rfl fx.b_isinstance rfl fx.b_int rfl (by decide) rfl (de_var 0 rfl rfl (visB rfl) rfl rfl) rfl rfl) (de_and (de_not (de_isi (T := .bool) rfl fx.b_isinstance rfl fx.b_bool rfl (by decide) rfl (de_var 0 rfl rfl (visB rfl) rfl rfl) rfl rfl)) (de_one (de_chain op_le op_le rd_le rd_le (de_var 1 rfl rfl (visB rfl) rfl rfl) (de_var 0 rfl rfl (visB rfl) rfl rfl) (de_var 2 rfl rfl (visB rfl) rfl rfl) rfl)))))
  · intro ds hl
    match ds, hl with
    | [_, _, _], _ => rfl
def mB_is_row (v_value v_many : D) : M (Fl Empty Empty) :=
  ((bOr ((((pure v_value : M D) >>= mIsi .str) >>= asB) >>= fun b3 => pure (!b3)) (((pure v_value : M D) >>= dLen) >>= fun x4 => (pure v_many : M D) >>= fun x5 => dNe x4 x5 >>= asB)) >>= fun t6 => if t6 = true then ((pure (.bl false) : M D) >>= fun d8 => pure (.ret d8)) >>= fun f7 => thenM f7 Empty.elim else (((((pure v_value : M D) >>= asW) >>= fun ds => compM dec1 (fun p9 => pure true) (fun p9 => (vOr ((pure p9 : M D) >>= fun x10 => (pure k_KNOWN_SIGNS : M D) >>= fun x11 => dIn x10 x11) ((pure p9 : M D) >>= fun x12 => (pure (.str [63]) : M D) >>= fun x13 => dEq x12 x13))) ds >>= fLst) >>= dAll) >>= fun d14 => pure (.ret d14)))
def m_is_row (v_value v_many : D) : M D := mB_is_row v_value v_many >>= retM
theorem c_is_row (fx : Fx P w K mg base) : CalD P w K mg base 1 "is_row" 2 (mk2 m_is_row) := by
  have nd : (["value", "many", "sign"] : List PySem.Str).Nodup := by decide
  obtain ⟨fd, F⟩ := fx.d_is_row
  refine (cal_of (N := ["value", "many", "sign"]) (ps := ["value", "many"]) (eN := eE) (k := 0) (mB := fun ds => match ds with | [v_value, v_many] => mB_is_row v_value v_many | _ => M.stuck) F fx.g_is_row ⟨rfl, rfl, rfl, by decide, rfl, by decide, by decide⟩ (fun _ _ _ _ _ _ us hl => match us, hl with | [_, _], _ => rfl) (fun cdv A outer s H E ds hl hcd hr => ?_)).to ?_
  · match ds, hl with
    | [v_value, v_many], _ => exact (db_if1 (DW.dt (dw_or (dt_not (dt_val (de_isi (T := .str) rfl fx.b_isinstance rfl fx.b_str rfl (by decide) rfl (de_var 0 rfl rfl (visB rfl) rfl rfl) rfl rfl) (fun _ => rfl))) (dw_or1 (dt_cmp (op_neD (hu64 hr)) rd_ne (de_b1 cr_lenA rc_len rfl fx.b_len rfl (de_var 0 rfl rfl (visB rfl) rfl rfl) (by decide) rfl rfl) (de_var 1 rfl rfl (visB rfl) rfl rfl) rfl)))) (db_ret de_bl) (db_ret (de_b1 (cr_all rfl) rc_all rfl fx.b_all rfl (de_lcF (own := [("sign", 2)]) fLst_ok rfl nd (g_name 2) (by decide) (di_any (de_var 0 rfl rfl (visB rfl) rfl rfl)) (blkOk_by rfl) (fun _ _ _ _ _ => (pg_name nd rfl (locB rfl))) (fun _ _ _ _ _ p9 => dts_nil) (fun _ _ _ _ _ p9 => (de_or (de_cmp (op_inA (hu65 hr)) rd_in (de_var 2 rfl rfl (visB rfl) rfl rfl) (de_gdat (v := .ref (He.ga K "KNOWN_SIGNS")) rfl fx.v_KNOWN_SIGNS rfl rfl (fun _ _ => fx.r_KNOWN_SIGNS _ _)) rfl) (de_one (de_cmp (op_eqD (hu64 hr)) rd_eq (de_var 2 rfl rfl (visB rfl) rfl rfl) (de_gstr rfl fx.v_UNKNOWN rfl rfl rfl) rfl)))) (fun _ => rfl)) (by decide) rfl rfl)))
  · intro ds hl
    match ds, hl with
    | [_, _], _ => rfl
def mB_is_right_model (v_value : D) : M (Fl Empty Empty) :=
  ((bOr ((((pure v_value : M D) >>= mIsi .tuple) >>= asB) >>= fun b15 => pure (!b15)) (((chM dLe dLe (pure (.int 1) : M D) ((pure v_value : M D) >>= dLen) (pure (.int (4)) : M D)) >>= asB) >>= fun b16 => pure (!b16))) >>= fun t17 => if t17 = true then ((pure (.bl false) : M D) >>= fun d19 => pure (.ret d19)) >>= fun f18 => thenM f18 Empty.elim else (((((((pure v_value : M D) >>= asW) >>= fun ds => compM dec1 (fun p20 => pure true) (fun p20 => (((pure p20 : M D) >>= fun x23 => (((pure v_value : M D) >>= dLen) >>= fun x21 => (pure []) >>= fun r22 => pure (x21 :: r22)) >>= fun r24 => pure (x23 :: r24)) >>= mk2 m_is_row)) ds >>= fLst) >>= dAll) >>= asB) >>= fun b25 => pure (!b25)) >>= fun t26 => if t26 = true then ((pure (.bl false) : M D) >>= fun d28 => pure (.ret d28)) >>= fun f27 => thenM f27 Empty.elim else ((((((pure v_value : M D) >>= asW) >>= fun ds => compM dec1 (fun p29 => pure true) (fun p29 => ((pure p29 : M D) >>= fun x30 => isS x30 >>= fun _ => (pure (.str [63]) : M D) >>= fun x31 => dCount x30 x31)) ds >>= fLst) >>= dSum) >>= fun x32 => (pure (.int (4)) : M D) >>= fun x33 => dLe x32 x33) >>= fun d34 => pure (.ret d34))))
def m_is_right_model (v_value : D) : M D := mB_is_right_model v_value >>= retM
theorem c_is_right_model (fx : Fx P w K mg base) : CalD P w K mg base 2 "is_right_model" 1 (mk1 m_is_right_model) := by
  have nd : (["value", "row"] : List PySem.Str).Nodup := by decide
  obtain ⟨fd, F⟩ := fx.d_is_right_model
  refine (cal_of (N := ["value", "row"]) (ps := ["value"]) (eN := eE) (k := 1) (mB := fun ds => match ds with | [v_value] => mB_is_right_model v_value | _ => M.stuck) F fx.g_is_right_model ⟨rfl, rfl, rfl, by decide, rfl, by decide, by decide⟩ (fun _ _ _ _ _ _ us hl => match us, hl with | [_], _ => rfl) (fun cdv A outer s H E ds hl hcd hr => ?_)).to ?_
  · match ds, hl with
    | [v_value], _ => exact (db_if1 (DW.dt (dw_or (dt_not (dt_val (de_isi (T := .tuple) rfl fx.b_isinstance rfl fx.b_tuple rfl (by decide) rfl (de_var 0 rfl rfl (visB rfl) rfl rfl) rfl rfl) (fun _ => rfl))) (dw_or1 (dt_not (dt_chain op_le op_le rd_le rd_le de_int (de_b1 cr_lenA rc_len rfl fx.b_len rfl (de_var 0 rfl rfl (visB rfl) rfl rfl) (by decide) rfl rfl) (de_gint rfl fx.v_MOST_QUANTITIES rfl) rfl))))) (db_ret de_bl) (db_if1 (dt_not (dt_val (de_b1 (cr_all rfl) rc_all rfl fx.b_all rfl (de_lcF (own := [("row", 1)]) fLst_ok rfl nd (g_name 1) (by decide) (di_any (de_var 0 rfl rfl (visB rfl) rfl rfl)) (blkOk_by rfl) (fun _ _ _ _ _ => (pg_name nd rfl (locB rfl))) (fun _ _ _ _ _ p20 => dts_nil) (fun _ _ _ _ _ p20 => (de_call (c_is_row fx) hr (by first | decide | omega) rfl passB (da_cons (de_var 1 rfl rfl (visB rfl) rfl rfl) (da_cons (de_b1 cr_lenA rc_len rfl fx.b_len rfl (de_var 0 rfl rfl (visB rfl) rfl rfl) (by decide) rfl rfl) da_nil rfl) rfl) rfl rfl rfl rfl rfl (mk2_len _))) (fun _ => rfl)) (by decide) rfl rfl) (fun _ => rfl))) (db_ret de_bl) (db_ret (de_cmp op_le rd_le (de_b1 (cr_sum rfl) rc_sum rfl fx.b_sum rfl (de_lcF (own := [("row", 1)]) fLst_ok rfl nd (g_name 1) (by decide) (di_any (de_var 0 rfl rfl (visB rfl) rfl rfl)) (blkOk_by rfl) (fun _ _ _ _ _ => (pg_name nd rfl (locB rfl))) (fun _ _ _ _ _ p29 => dts_nil) (fun _ _ _ _ _ p29 => (de_count (de_var 1 rfl rfl (visB rfl) rfl rfl) (de_gstr rfl fx.v_UNKNOWN rfl rfl rfl) rfl rfl rfl)) (fun _ => rfl)) (by decide) rfl rfl) (de_gint rfl fx.v_MOST_UNKNOWN rfl) rfl))))
  · intro ds hl
    match ds, hl with
    | [_], _ => rfl
def mB_are_right_sizes (v_model v_value : D) : M (Fl Empty Empty) :=
  ((bOr ((((pure v_value : M D) >>= mIsi .tuple) >>= asB) >>= fun b35 => pure (!b35)) (((pure v_value : M D) >>= dLen) >>= fun x36 => ((pure v_model : M D) >>= dLen) >>= fun x37 => dNe x36 x37 >>= asB)) >>= fun t38 => if t38 = true then ((pure (.bl false) : M D) >>= fun d40 => pure (.ret d40)) >>= fun f39 => thenM f39 Empty.elim else (((pure v_value : M D) >>= asW) >>= fun ds62 => loopM dec1 (fun (s41 : Unit) p42 => ((bOr ((((pure p42 : M D) >>= mIsi .tuple) >>= asB) >>= fun b44 => pure (!b44)) (((pure p42 : M D) >>= dLen) >>= fun x45 => ((pure v_model : M D) >>= dLen) >>= fun x46 => dNe x45 x46 >>= asB)) >>= fun t47 => if t47 = true then ((pure (.bl false) : M D) >>= fun d49 => pure (.ret d49)) >>= fun f48 => thenM f48 Empty.elim else (((((((pure p42 : M D) >>= asW) >>= fun ds => compM dec1 (fun p50 => pure true) (fun p50 => (((pure p50 : M D) >>= fun x55 => ((pure (.int 1) : M D) >>= fun x53 => ((pure (.int (1000000000000000000000000000000)) : M D) >>= fun x51 => (pure []) >>= fun r52 => pure (x51 :: r52)) >>= fun r54 => pure (x53 :: r54)) >>= fun r56 => pure (x55 :: r56)) >>= mk3 m_is_within)) ds >>= fLst) >>= dAll) >>= asB) >>= fun b57 => pure (!b57)) >>= fun t58 => if t58 = true then ((pure (.bl false) : M D) >>= fun d60 => pure (.ret d60)) >>= fun f59 => thenM f59 Empty.elim else (pure (.next ()))))) ds62 () >>= fun f43 => thenL f43 fun s41 => ((pure (.bl true) : M D) >>= fun d61 => pure (.ret d61))))
def m_are_right_sizes (v_model v_value : D) : M D := mB_are_right_sizes v_model v_value >>= retM
theorem c_are_right_sizes (fx : Fx P w K mg base) : CalD P w K mg base 2 "are_right_sizes" 2 (mk2 m_are_right_sizes) := by
  have nd : (["model", "value", "row", "size"] : List PySem.Str).Nodup := by decide
  obtain ⟨fd, F⟩ := fx.d_are_right_sizes
  refine (cal_of (N := ["model", "value", "row", "size"]) (ps := ["model", "value"]) (eN := eE) (k := 1) (mB := fun ds => match ds with | [v_model, v_value] => mB_are_right_sizes v_model v_value | _ => M.stuck) F fx.g_are_right_sizes ⟨rfl, rfl, rfl, by decide, rfl, by decide, by decide⟩ (fun _ _ _ _ _ _ us hl => match us, hl with | [_, _], _ => rfl) (fun cdv A outer s H E ds hl hcd hr => ?_)).to ?_
  · match ds, hl with
    | [v_model, v_value], _ => exact (db_if1 (DW.dt (dw_or (dt_not (dt_val (de_isi (T := .tuple) rfl fx.b_isinstance rfl fx.b_tuple rfl (by decide) rfl (de_var 1 rfl rfl (visB rfl) rfl rfl) rfl rfl) (fun _ => rfl))) (dw_or1 (dt_cmp (op_neD (hu64 hr)) rd_ne (de_b1 cr_lenA rc_len rfl fx.b_len rfl (de_var 1 rfl rfl (visB rfl) rfl rfl) (by decide) rfl rfl) (de_b1 cr_lenA rc_len rfl fx.b_len rfl (de_var 0 rfl rfl (visB rfl) rfl rfl) (by decide) rfl rfl) rfl)))) (db_ret de_bl) (db_for (es := fun (s41 : Unit) => [.val v_model, .val v_value, .none, .none]) () (.k (.k (.k (.k .nil)))) (passes_of rfl) rfl (g_name 2) (di_any (de_var 1 rfl rfl (visB rfl) rfl rfl)) (pg_name nd rfl (locB rfl)) (fun _ => rfl) (fun s41 p42 => (db_if1 (DW.dt (dw_or (dt_not (dt_val (de_isi (T := .tuple) rfl fx.b_isinstance rfl fx.b_tuple rfl (by decide) rfl (de_var 2 rfl rfl (visB rfl) rfl rfl) rfl rfl) (fun _ => rfl))) (dw_or1 (dt_cmp (op_neD (hu64 hr)) rd_ne (de_b1 cr_lenA rc_len rfl fx.b_len rfl (de_var 2 rfl rfl (visB rfl) rfl rfl) (by decide) rfl rfl) (de_b1 cr_lenA rc_len rfl fx.b_len rfl (de_var 0 rfl rfl (visB rfl) rfl rfl) (by decide) rfl rfl) rfl)))) (db_ret de_bl) (db_if1 (dt_not (dt_val (de_b1 (cr_all rfl) rc_all rfl fx.b_all rfl (de_lcF (own := [("size", 3)]) fLst_ok rfl nd (g_name 3) (by decide) (di_any (de_var 2 rfl rfl (visB rfl) rfl rfl)) (blkOk_by rfl) (fun _ _ _ _ _ => (pg_name nd rfl (locB rfl))) (fun _ _ _ _ _ p50 => dts_nil) (fun _ _ _ _ _ p50 => (de_call (c_is_within fx) hr (by first | decide | omega) rfl passB (da_cons (de_var 3 rfl rfl (visB rfl) rfl rfl) (da_cons de_int (da_cons (de_gint rfl fx.v_MOST_SIZE rfl) da_nil rfl) rfl) rfl) rfl rfl rfl rfl rfl (mk3_len _))) (fun _ => rfl)) (by decide) rfl rfl) (fun _ => rfl))) (db_ret de_bl) (db_nil (s := ()) (.k (.k (.n (.k .nil)))))))) (fun s41 => (db_ret de_bl))))
  · intro ds hl
    match ds, hl with
    | [_, _], _ => rfl
def mB_need_model (v_value : D) : M (Fl Unit Empty) :=
  ((((((pure v_value : M D) >>= fun x63 => (pure []) >>= fun r64 => pure (x63 :: r64)) >>= mk1 m_is_right_model) >>= asB) >>= fun b65 => pure (!b65)) >>= fun t66 => if t66 = true then (M.throw ⟨"InvalidModel", []⟩) >>= fun f67 => thenM f67 Empty.elim else (pure (.next ())))
def m_need_model (v_value : D) : M D := mB_need_model v_value >>= retM
theorem c_need_model (fx : Fx P w K mg base) : CalD P w K mg base 3 "need_model" 1 (mk1 m_need_model) := by
  have nd : (["value"] : List PySem.Str).Nodup := by decide
  obtain ⟨fd, F⟩ := fx.d_need_model
  refine (cal_of (N := ["value"]) (ps := ["value"]) (eN := fun (_ : Unit) => [.none]) (k := 2) (mB := fun ds => match ds with | [v_value] => mB_need_model v_value | _ => M.stuck) F fx.g_need_model ⟨rfl, rfl, rfl, by decide, rfl, by decide, by decide⟩ (fun _ _ _ _ _ _ us hl => match us, hl with | [_], _ => rfl) (fun cdv A outer s H E ds hl hcd hr => ?_)).to ?_
  · match ds, hl with
    | [v_value], _ => exact (db_if1 (dt_not (dt_val (de_call (c_is_right_model fx) hr (by first | decide | omega) rfl (passF (L2N.takes_of rfl rfl rfl rfl)) (da_cons (de_var 0 rfl rfl (visB rfl) rfl rfl) da_nil rfl) rfl rfl rfl rfl rfl (mk1_len _)) (fun _ => rfl))) (db_raise rfl (L2N.takes_of rfl rfl rfl rfl) fx.e_InvalidModel rfl rfl) (db_nil (s := ()) (.n .nil)))
  · intro ds hl
    match ds, hl with
    | [_], _ => rfl
def mB_unknown_places (v_model : D) : M (Fl Empty Empty) :=
  (((pure []) >>= fLst) >>= fun v_found_68 => (((pure v_model : M D) >>= enW) >>= fun ds83 => loopM dec2 (fun (s69 : D) p70 => (((pure s69 : M D) >>= fun x80 => (((pure p70.2 : M D) >>= enW) >>= fun ds => compM dec2 (fun p73 => ((pure p73.2 : M D) >>= fun x74 => (pure (.str [63]) : M D) >>= fun x75 => dEq x74 x75 >>= asB)) (fun p73 => (((pure p70.1 : M D) >>= fun x78 => ((pure p73.1 : M D) >>= fun x76 => (pure []) >>= fun r77 => pure (x76 :: r77)) >>= fun r79 => pure (x78 :: r79)) >>= mkTup)) ds >>= fLst) >>= fun x81 => dAdd x80 x81) >>= fun v_found_72 => (pure (.next v_found_72)))) ds83 v_found_68 >>= fun f71 => thenL f71 fun s69 => ((pure s69 : M D) >>= fun d82 => pure (.ret d82))))
def m_unknown_places (v_model : D) : M D := mB_unknown_places v_model >>= retM
theorem c_unknown_places (fx : Fx P w K mg base) : CalD P w K mg base 1 "unknown_places" 1 (mk1 m_unknown_places) := by
  have nd : (["model", "found", "at", "row", "place", "sign"] : List PySem.Str).Nodup := by decide
  obtain ⟨fd, F⟩ := fx.d_unknown_places
  refine (cal_of (N := ["model", "found", "at", "row", "place", "sign"]) (ps := ["model"]) (eN := eE) (k := 0) (mB := fun ds => match ds with | [v_model] => mB_unknown_places v_model | _ => M.stuck) F fx.g_unknown_places ⟨rfl, rfl, rfl, by decide, rfl, by decide, by decide⟩ (fun _ _ _ _ _ _ us hl => match us, hl with | [_], _ => rfl) (fun cdv A outer s H E ds hl hcd hr => ?_)).to ?_
  · match ds, hl with
    | [v_model], _ => exact (db_set 1 (de_lstF fLst_ok da_nil) nd rfl (locB rfl) rfl (by first | exact .inl rfl | exact .inr rfl) (fun v_found_68 => (db_for (es := fun (s69 : D) => [.val v_model, .val s69, .none, .none, .none, .none]) v_found_68 (.k (.k (.k (.k (.k (.k .nil)))))) (passes_of rfl) rfl (g_tup2 2 3) (di_en rfl fx.b_enumerate (de_var 0 rfl rfl (visB rfl) rfl rfl) rfl) (pg_tup rfl (pgs_cons (pg_name nd rfl (locB rfl)) (pgs_cons (pg_name nd rfl (locB rfl)) pgs_nil))) (fun _ => rfl) (fun s69 p70 => (db_set 1 (de_op2 op_addA rd_add (de_var 1 rfl rfl (visB rfl) rfl rfl) (de_lcF (own := [("place", 4), ("sign", 5)]) fLst_ok rfl nd (g_tup2 4 5) (by decide) (di_en rfl fx.b_enumerate (de_var 3 rfl rfl (visB rfl) rfl rfl) rfl) (blkOk_by rfl) (fun _ _ _ _ _ => (pg_tup rfl (pgs_cons (pg_name nd rfl (locB rfl)) (pgs_cons (pg_name nd rfl (locB rfl)) pgs_nil)))) (fun _ _ _ _ _ p73 => dts_one (dt_cmp (op_eqD (hu64 hr)) rd_eq (de_var 5 rfl rfl (visB rfl) rfl rfl) (de_gstr rfl fx.v_UNKNOWN rfl rfl rfl) rfl)) (fun _ _ _ _ _ p73 => (de_tup (da_cons (de_var 2 rfl rfl (visB rfl) rfl rfl) (da_cons (de_var 4 rfl rfl (visB rfl) rfl rfl) da_nil rfl) rfl))) (fun _ => rfl))) nd rfl (locB rfl) rfl (by first | exact .inl rfl | exact .inr rfl) (fun v_found_72 => (db_nil (s := v_found_72) (.k (.k (.n (.n (.k (.k .nil)))))))))) (fun s69 => (db_ret (de_var 1 rfl rfl (visB rfl) rfl rfl))))))
  · intro ds hl
    match ds, hl with
    | [_], _ => rfl
def mB_with_sign (v_model v_place v_sign : D) : M (Fl Empty Empty) :=
  (((pure v_model : M D) >>= fun x87 => ((pure v_place : M D) >>= fun x85 => (pure (.int 0) : M D) >>= fun x86 => dIndex x85 x86) >>= fun x88 => dIndex x87 x88) >>= fun v_row_84 => (((((pure v_model : M D) >>= fun x91 => (pure none) >>= fun l92 => (((pure v_place : M D) >>= fun x89 => (pure (.int 0) : M D) >>= fun x90 => dIndex x89 x90) >>= asI) >>= fun u93 => dSlice x91 l92 u93) >>= fun x112 => ((((((pure v_row_84 : M D) >>= fun x96 => (pure none) >>= fun l97 => (((pure v_place : M D) >>= fun x94 => (pure (.int 1) : M D) >>= fun x95 => dIndex x94 x95) >>= asI) >>= fun u98 => dSlice x96 l97 u98) >>= fun x99 => (pure v_sign : M D) >>= fun x100 => dAdd x99 x100) >>= fun x108 => ((pure v_row_84 : M D) >>= fun x105 => ((((pure v_place : M D) >>= fun x101 => (pure (.int 1) : M D) >>= fun x102 => dIndex x101 x102) >>= fun x103 => (pure (.int 1) : M D) >>= fun x104 => dAdd x103 x104) >>= asI) >>= fun l106 => (pure none) >>= fun u107 => dSlice x105 l106 u107) >>= fun x109 => dAdd x108 x109) >>= fun x110 => (pure []) >>= fun r111 => pure (x110 :: r111)) >>= mkTup) >>= fun x113 => dAdd x112 x113) >>= fun x121 => ((pure v_model : M D) >>= fun x118 => ((((pure v_place : M D) >>= fun x114 => (pure (.int 0) : M D) >>= fun x115 => dIndex x114 x115) >>= fun x116 => (pure (.int 1) : M D) >>= fun x117 => dAdd x116 x117) >>= asI) >>= fun l119 => (pure none) >>= fun u120 => dSlice x118 l119 u120) >>= fun x122 => dAdd x121 x122) >>= fun d123 => pure (.ret d123)))
def m_with_sign (v_model v_place v_sign : D) : M D := mB_with_sign v_model v_place v_sign >>= retM
theorem c_with_sign (fx : Fx P w K mg base) : CalD P w K mg base 1 "with_sign" 3 (mk3 m_with_sign) := by
  have nd : (["model", "place", "sign", "row"] : List PySem.Str).Nodup := by decide
  obtain ⟨fd, F⟩ := fx.d_with_sign
  refine (cal_of (N := ["model", "place", "sign", "row"]) (ps := ["model", "place", "sign"]) (eN := eE) (k := 0) (mB := fun ds => match ds with | [v_model, v_place, v_sign] => mB_with_sign v_model v_place v_sign | _ => M.stuck) F fx.g_with_sign ⟨rfl, rfl, rfl, by decide, rfl, by decide, by decide⟩ (fun _ _ _ _ _ _ us hl => match us, hl with | [_, _, _], _ => rfl) (fun cdv A outer s H E ds hl hcd hr => ?_)).to ?_
  · match ds, hl with
    | [v_model, v_place, v_sign], _ => exact (db_set 3 (de_ix (de_var 0 rfl rfl (visB rfl) rfl rfl) (de_ix (de_var 1 rfl rfl (visB rfl) rfl rfl) de_int (fun _ _ => rfl)) (fun _ _ => rfl)) nd rfl (locB rfl) rfl (by first | exact .inl rfl | exact .inr rfl) (fun v_row_84 => (db_ret (de_op2 op_addA rd_add (de_op2 op_addA rd_add (de_slice (de_var 0 rfl rfl (visB rfl) rfl rfl) do_none (do_some (de_ix (de_var 1 rfl rfl (visB rfl) rfl rfl) de_int (fun _ _ => rfl)))) (de_tup (da_cons (de_op2 op_addA rd_add (de_op2 op_addA rd_add (de_slice (de_var 3 rfl rfl (visB rfl) rfl rfl) do_none (do_some (de_ix (de_var 1 rfl rfl (visB rfl) rfl rfl) de_int (fun _ _ => rfl)))) (de_var 2 rfl rfl (visB rfl) rfl rfl)) (de_slice (de_var 3 rfl rfl (visB rfl) rfl rfl) (do_some (de_op2 op_addA rd_add (de_ix (de_var 1 rfl rfl (visB rfl) rfl rfl) de_int (fun _ _ => rfl)) de_int)) do_none)) da_nil rfl))) (de_slice (de_var 0 rfl rfl (visB rfl) rfl rfl) (do_some (de_op2 op_addA rd_add (de_ix (de_var 1 rfl rfl (visB rfl) rfl rfl) de_int (fun _ _ => rfl)) de_int)) do_none)))))
  · intro ds hl
    match ds, hl with
    | [_, _, _], _ => rfl
def mB_all_fillings (v_model : D) : M (Fl Empty Empty) :=
  ((((pure v_model : M D) >>= fun x125 => (pure []) >>= fun r126 => pure (x125 :: r126)) >>= fLst) >>= fun v_found_124 => (((((pure v_model : M D) >>= fun x127 => (pure []) >>= fun r128 => pure (x127 :: r128)) >>= mk1 m_unknown_places) >>= asW) >>= fun ds149 => loopM dec1 (fun (s129 : D) p130 => (((pure []) >>= fLst) >>= fun v_later_132 => (((pure s129 : M D) >>= asW) >>= fun ds147 => loopM dec1 (fun (s133 : D) p134 => (((pure s133 : M D) >>= fun x144 => (((pure k_KNOWN_SIGNS : M D) >>= asW) >>= fun ds => compM dec1 (fun p137 => pure true) (fun p137 => (((pure p134 : M D) >>= fun x142 => ((pure p130 : M D) >>= fun x140 => ((pure p137 : M D) >>= fun x138 => (pure []) >>= fun r139 => pure (x138 :: r139)) >>= fun r141 => pure (x140 :: r141)) >>= fun r143 => pure (x142 :: r143)) >>= mk3 m_with_sign)) ds >>= fLst) >>= fun x145 => dAdd x144 x145) >>= fun v_later_136 => (pure (.next v_later_136)))) ds147 v_later_132 >>= fun f135 => thenL f135 fun s133 => ((pure s133 : M D) >>= fun v_found_146 => (pure (.next v_found_146)))))) ds149 v_found_124 >>= fun f131 => thenL f131 fun s129 => (((pure s129 : M D) >>= (dSorted newC)) >>= fun d148 => pure (.ret d148))))
def m_all_fillings (v_model : D) : M D := mB_all_fillings v_model >>= retM
theorem c_all_fillings (fx : Fx P w K mg base) : CalD P w K mg base 2 "all_fillings" 1 (mk1 m_all_fillings) := by
  have nd : (["model", "found", "place", "later", "one", "sign"] : List PySem.Str).Nodup := by decide
  obtain ⟨fd, F⟩ := fx.d_all_fillings
  refine (cal_of (N := ["model", "found", "place", "later", "one", "sign"]) (ps := ["model"]) (eN := eE) (k := 1) (mB := fun ds => match ds with | [v_model] => mB_all_fillings v_model | _ => M.stuck) F fx.g_all_fillings ⟨rfl, rfl, rfl, by decide, rfl, by decide, by decide⟩ (fun _ _ _ _ _ _ us hl => match us, hl with | [_], _ => rfl) (fun cdv A outer s H E ds hl hcd hr => ?_)).to ?_
  · match ds, hl with
    | [v_model], _ => exact (db_set 1 (de_lstF fLst_ok (da_cons (de_var 0 rfl rfl (visB rfl) rfl rfl) da_nil rfl)) nd rfl (locB rfl) rfl (by first | exact .inl rfl | exact .inr rfl) (fun v_found_124 => (db_for (es := fun (s129 : D) => [.val v_model, .val s129, .none, .none, .none, .none]) v_found_124 (.k (.k (.k (.k (.k (.k .nil)))))) (passes_of rfl) rfl (g_name 2) (di_any (de_call (c_unknown_places fx) hr (by first | decide | omega) rfl (passF (L2N.takes_of rfl rfl rfl rfl)) (da_cons (de_var 0 rfl rfl (visB rfl) rfl rfl) da_nil rfl) rfl rfl rfl rfl rfl (mk1_len _))) (pg_name nd rfl (locB rfl)) (fun _ => rfl) (fun s129 p130 => (db_set 3 (de_lstF fLst_ok da_nil) nd rfl (locB rfl) rfl (by first | exact .inl rfl | exact .inr rfl) (fun v_later_132 => (db_for (es := fun (s133 : D) => [.val v_model, .val s129, .val p130, .val s133, .none, .none]) v_later_132 (.k (.k (.k (.k (.k (.k .nil)))))) (passes_of rfl) rfl (g_name 4) (di_any (de_var 1 rfl rfl (visB rfl) rfl rfl)) (pg_name nd rfl (locB rfl)) (fun _ => rfl) (fun s133 p134 => (db_set 3 (de_op2 op_addA rd_add (de_var 3 rfl rfl (visB rfl) rfl rfl) (de_lcF (own := [("sign", 5)]) fLst_ok rfl nd (g_name 5) (by decide) (di_any (de_gdat (v := .ref (He.ga K "KNOWN_SIGNS")) rfl fx.v_KNOWN_SIGNS rfl rfl (fun _ _ => fx.r_KNOWN_SIGNS _ _))) (blkOk_by rfl) (fun _ _ _ _ _ => (pg_name nd rfl (locB rfl))) (fun _ _ _ _ _ p137 => dts_nil) (fun _ _ _ _ _ p137 => (de_call (c_with_sign fx) hr (by first | decide | omega) rfl passB (da_cons (de_var 4 rfl rfl (visB rfl) rfl rfl) (da_cons (de_var 2 rfl rfl (visB rfl) rfl rfl) (da_cons (de_var 5 rfl rfl (visB rfl) rfl rfl) da_nil rfl) rfl) rfl) rfl rfl rfl rfl rfl (mk3_len _))) (fun _ => rfl))) nd rfl (locB rfl) rfl (by first | exact .inl rfl | exact .inr rfl) (fun v_later_136 => (db_nil (s := v_later_136) (.k (.k (.k (.k (.n (.k .nil)))))))))) (fun s133 => (db_set 1 (de_var 3 rfl rfl (visB rfl) rfl rfl) nd rfl (locB rfl) rfl (by first | exact .inl rfl | exact .inr rfl) (fun v_found_146 => (db_nil (s := v_found_146) (.k (.k (.n (.n (.k (.k .nil)))))))))))))) (fun s129 => (db_ret (de_b1 cr_sortedD (rc_sorted newC_ok (hu65 hr)) rfl fx.b_sorted rfl (de_var 1 rfl rfl (visB rfl) rfl rfl) (by decide) rfl rfl))))))
  · intro ds hl
    match ds, hl with
    | [_], _ => rfl
def mB_is_model (v_value : D) : M (Fl Empty Empty) :=
  ((((pure v_value : M D) >>= fun x150 => (pure []) >>= fun r151 => pure (x150 :: r151)) >>= mk1 m_is_right_model) >>= fun d152 => pure (.ret d152))
def m_is_model (v_value : D) : M D := mB_is_model v_value >>= retM
theorem c_is_model (fx : Fx P w K mg base) : CalD P w K mg base 3 "is_model" 1 (mk1 m_is_model) := by
  have nd : (["value"] : List PySem.Str).Nodup := by decide
  obtain ⟨fd, F⟩ := fx.d_is_model
  refine (cal_of (N := ["value"]) (ps := ["value"]) (eN := eE) (k := 2) (mB := fun ds => match ds with | [v_value] => mB_is_model v_value | _ => M.stuck) F fx.g_is_model ⟨rfl, rfl, rfl, by decide, rfl, by decide, by decide⟩ (fun _ _ _ _ _ _ us hl => match us, hl with | [_], _ => rfl) (fun cdv A outer s H E ds hl hcd hr => ?_)).to ?_
  · match ds, hl with
    | [v_value], _ => exact (db_ret (de_call (c_is_right_model fx) hr (by first | decide | omega) rfl (passF (L2N.takes_of rfl rfl rfl rfl)) (da_cons (de_var 0 rfl rfl (visB rfl) rfl rfl) da_nil rfl) rfl rfl rfl rfl rfl (mk1_len _)))
  · intro ds hl
    match ds, hl with
    | [_], _ => rfl
def mB_are_sizes (v_model v_value : D) : M (Fl Empty Empty) :=
  ((((pure v_model : M D) >>= fun x153 => (pure []) >>= fun r154 => pure (x153 :: r154)) >>= mk1 m_need_model) >>= fun _ => ((((pure v_model : M D) >>= fun x157 => ((pure v_value : M D) >>= fun x155 => (pure []) >>= fun r156 => pure (x155 :: r156)) >>= fun r158 => pure (x157 :: r158)) >>= mk2 m_are_right_sizes) >>= fun d159 => pure (.ret d159)))
def m_are_sizes (v_model v_value : D) : M D := mB_are_sizes v_model v_value >>= retM
theorem c_are_sizes (fx : Fx P w K mg base) : CalD P w K mg base 4 "are_sizes" 2 (mk2 m_are_sizes) := by
  have nd : (["model", "value"] : List PySem.Str).Nodup := by decide
  obtain ⟨fd, F⟩ := fx.d_are_sizes
  refine (cal_of (N := ["model", "value"]) (ps := ["model", "value"]) (eN := eE) (k := 3) (mB := fun ds => match ds with | [v_model, v_value] => mB_are_sizes v_model v_value | _ => M.stuck) F fx.g_are_sizes ⟨rfl, rfl, rfl, by decide, rfl, by decide, by decide⟩ (fun _ _ _ _ _ _ us hl => match us, hl with | [_, _], _ => rfl) (fun cdv A outer s H E ds hl hcd hr => ?_)).to ?_
  · match ds, hl with
    | [v_model, v_value], _ => exact (db_expr (de_call (c_need_model fx) hr (by first | decide | omega) rfl (passF (L2N.takes_of rfl rfl rfl rfl)) (da_cons (de_var 0 rfl rfl (visB rfl) rfl rfl) da_nil rfl) rfl rfl rfl rfl rfl (mk1_len _)) rfl (db_ret (de_call (c_are_right_sizes fx) hr (by first | decide | omega) rfl (passF (L2N.takes_of rfl rfl rfl rfl)) (da_cons (de_var 0 rfl rfl (visB rfl) rfl rfl) (da_cons (de_var 1 rfl rfl (visB rfl) rfl rfl) da_nil rfl) rfl) rfl rfl rfl rfl rfl (mk2_len _))))
  · intro ds hl
    match ds, hl with
    | [_, _], _ => rfl
def mB_fillings (v_model : D) : M (Fl Empty Empty) :=
  ((((pure v_model : M D) >>= fun x160 => (pure []) >>= fun r161 => pure (x160 :: r161)) >>= mk1 m_need_model) >>= fun _ => ((((pure v_model : M D) >>= fun x162 => (pure []) >>= fun r163 => pure (x162 :: r163)) >>= mk1 m_all_fillings) >>= fun d164 => pure (.ret d164)))
def m_fillings (v_model : D) : M D := mB_fillings v_model >>= retM
theorem c_fillings (fx : Fx P w K mg base) : CalD P w K mg base 4 "fillings" 1 (mk1 m_fillings) := by
  have nd : (["model"] : List PySem.Str).Nodup := by decide
  obtain ⟨fd, F⟩ := fx.d_fillings
  refine (cal_of (N := ["model"]) (ps := ["model"]) (eN := eE) (k := 3) (mB := fun ds => match ds with | [v_model] => mB_fillings v_model | _ => M.stuck) F fx.g_fillings ⟨rfl, rfl, rfl, by decide, rfl, by decide, by decide⟩ (fun _ _ _ _ _ _ us hl => match us, hl with | [_], _ => rfl) (fun cdv A outer s H E ds hl hcd hr => ?_)).to ?_
  · match ds, hl with
    | [v_model], _ => exact (db_expr (de_call (c_need_model fx) hr (by first | decide | omega) rfl (passF (L2N.takes_of rfl rfl rfl rfl)) (da_cons (de_var 0 rfl rfl (visB rfl) rfl rfl) da_nil rfl) rfl rfl rfl rfl rfl (mk1_len _)) rfl (db_ret (de_call (c_all_fillings fx) hr (by first | decide | omega) rfl (passF (L2N.takes_of rfl rfl rfl rfl)) (da_cons (de_var 0 rfl rfl (visB rfl) rfl rfl) da_nil rfl) rfl rfl rfl rfl rfl (mk1_len _))))
  · intro ds hl
    match ds, hl with
    | [_], _ => rfl
def mB_unknown (v_model : D) : M (Fl Empty Empty) :=
  ((((pure v_model : M D) >>= fun x165 => (pure []) >>= fun r166 => pure (x165 :: r166)) >>= mk1 m_need_model) >>= fun _ => ((((pure v_model : M D) >>= fun x167 => (pure []) >>= fun r168 => pure (x167 :: r168)) >>= mk1 m_unknown_places) >>= fun d169 => pure (.ret d169)))
def m_unknown (v_model : D) : M D := mB_unknown v_model >>= retM
theorem c_unknown (fx : Fx P w K mg base) : CalD P w K mg base 4 "unknown" 1 (mk1 m_unknown) := by
  have nd : (["model"] : List PySem.Str).Nodup := by decide
  obtain ⟨fd, F⟩ := fx.d_unknown
  refine (cal_of (N := ["model"]) (ps := ["model"]) (eN := eE) (k := 3) (mB := fun ds => match ds with | [v_model] => mB_unknown v_model | _ => M.stuck) F fx.g_unknown ⟨rfl, rfl, rfl, by decide, rfl, by decide, by decide⟩ (fun _ _ _ _ _ _ us hl => match us, hl with | [_], _ => rfl) (fun cdv A outer s H E ds hl hcd hr => ?_)).to ?_
  · match ds, hl with
    | [v_model], _ => exact (db_expr (de_call (c_need_model fx) hr (by first | decide | omega) rfl (passF (L2N.takes_of rfl rfl rfl rfl)) (da_cons (de_var 0 rfl rfl (visB rfl) rfl rfl) da_nil rfl) rfl rfl rfl rfl rfl (mk1_len _)) rfl (db_ret (de_call (c_unknown_places fx) hr (by first | decide | omega) rfl (passF (L2N.takes_of rfl rfl rfl rfl)) (da_cons (de_var 0 rfl rfl (visB rfl) rfl rfl) da_nil rfl) rfl rfl rfl rfl rfl (mk1_len _))))
  · intro ds hl
    match ds, hl with
    | [_], _ => rfl
def mB__law_source (v_script v_k : D) : M (Fl Empty Empty) :=
  ((pure (.int 0) : M D) >>= fun v_number_170 => ((((pure v_script : M D) >>= dLen) >>= fun x171 => (pure v_k : M D) >>= fun x172 => dGt x171 x172 >>= asB) >>= fun t173 => (if t173 = true then ((((pure v_script : M D) >>= fun x177 => (pure v_k : M D) >>= fun x178 => dIndex x177 x178) >>= dInt) >>= fun v_number_176 => (pure (.next v_number_176))) else (pure (.next v_number_170)) : M (Fl (D) _)) >>= fun f174 => thenM f174 fun s175 => ((((((pure s175 : M D) >>= fun x180 => (pure (.int 16807) : M D) >>= fun x181 => dMul x180 x181) >>= fun x184 => ((pure (.int 60919) : M D) >>= fun x182 => (pure v_k : M D) >>= fun x183 => dMul x182 x183) >>= fun x185 => dAdd x184 x185) >>= fun x186 => (pure (.int 31) : M D) >>= fun x187 => dAdd x186 x187) >>= fun x188 => (pure (.int 2147481173) : M D) >>= fun x189 => dMod x188 x189) >>= fun v_start_179 => ((((((pure v_start_179 : M D) >>= fun x191 => (pure v_start_179 : M D) >>= fun x192 => dMul x191 x192) >>= fun x193 => (pure (.int 2147481151) : M D) >>= fun x194 => dMod x193 x194) >>= fun x197 => ((pure (.int 2) : M D) >>= fun x195 => (pure v_k : M D) >>= fun x196 => dMul x195 x196) >>= fun x198 => dAdd x197 x198) >>= fun x199 => (pure (.int 5) : M D) >>= fun x200 => dAdd x199 x200) >>= fun v_start_190 => ((((((pure s175 : M D) >>= fun x203 => ((pure (.int 10) : M D) >>= fun x201 => (pure (.int 18) : M D) >>= fun x202 => dPow x201 x202) >>= fun x204 => dGe x203 x204 >>= asB) >>= fun t205 => if t205 = true then (pure s175 : M D) else (pure (.int 0) : M D)) >>= fun x208 => ((pure v_start_190 : M D) >>= fun x206 => (pure []) >>= fun r207 => pure (x206 :: r207)) >>= fun r209 => pure (x208 :: r209)) >>= newC) >>= fun d210 => pure (.ret d210))))))
def m__law_source (v_script v_k : D) : M D := mB__law_source v_script v_k >>= retM
theorem c__law_source (fx : Fx P w K mg base) : CalD P w K mg base 1 "_law_source" 2 (mk2 m__law_source) := by
  have nd : (["script", "k", "number", "start"] : List PySem.Str).Nodup := by decide
  obtain ⟨fd, F⟩ := fx.d__law_source
  refine (cal_of (N := ["script", "k", "number", "start"]) (ps := ["script", "k"]) (eN := eE) (k := 0) (mB := fun ds => match ds with | [v_script, v_k] => mB__law_source v_script v_k | _ => M.stuck) F fx.g__law_source ⟨rfl, rfl, rfl, by decide, rfl, by decide, by decide⟩ (fun _ _ _ _ _ _ us hl => match us, hl with | [_, _], _ => rfl) (fun cdv A outer s H E ds hl hcd hr => ?_)).to ?_
  · match ds, hl with
    | [v_script, v_k], _ => exact (db_set 2 de_int nd rfl (locB rfl) rfl (by first | exact .inl rfl | exact .inr rfl) (fun v_number_170 => (db_if (e' := fun (s175 : D) => [.val v_script, .val v_k, .val s175, .none]) (dt_cmp op_gt rd_gt (de_b1 cr_lenA rc_len rfl fx.b_len rfl (de_var 0 rfl rfl (visB rfl) rfl rfl) (by decide) rfl rfl) (de_var 1 rfl rfl (visB rfl) rfl rfl) rfl) (db_set 2 (de_ty1 call_int1 rc_int rfl fx.b_int rfl (de_ix (de_var 0 rfl rfl (visB rfl) rfl rfl) (de_var 1 rfl rfl (visB rfl) rfl rfl) (fun _ _ => rfl)) (by decide) rfl rfl) nd rfl (locB rfl) rfl (by first | exact .inl rfl | exact .inr rfl) (fun v_number_176 => (db_nil (s := v_number_176) (.k (.k (.k (.k .nil))))))) (db_nil (s := v_number_170) (.k (.k (.k (.k .nil))))) (fun s175 => (db_set 3 (de_op2 op_modN rd_mod (de_op2 op_addA rd_add (de_op2 op_addA rd_add (de_op2 op_mulA rd_mul (de_var 2 rfl rfl (visB rfl) rfl rfl) de_int) (de_op2 op_mulA rd_mul de_int (de_var 1 rfl rfl (visB rfl) rfl rfl))) de_int) de_int) nd rfl (locB rfl) rfl (by first | exact .inl rfl | exact .inr rfl) (fun v_start_179 => (db_set 3 (de_op2 op_addA rd_add (de_op2 op_addA rd_add (de_op2 op_modN rd_mod (de_op2 op_mulA rd_mul (de_var 3 rfl rfl (visB rfl) rfl rfl) (de_var 3 rfl rfl (visB rfl) rfl rfl)) de_int) (de_op2 op_mulA rd_mul de_int (de_var 1 rfl rfl (visB rfl) rfl rfl))) de_int) nd rfl (locB rfl) rfl (by first | exact .inl rfl | exact .inr rfl) (fun v_start_190 => (db_ret (de_lstF newC_ok (da_cons (de_ifExp (dt_cmp op_ge rd_ge (de_var 2 rfl rfl (visB rfl) rfl rfl) (de_op2 op_pow rd_pow de_int de_int) rfl) (de_var 2 rfl rfl (visB rfl) rfl rfl) de_int) (da_cons (de_var 3 rfl rfl (visB rfl) rfl rfl) da_nil rfl) rfl)))))))))))
  · intro ds hl
    match ds, hl with
    | [_, _], _ => rfl
def mB__law_pick (v_source v_many : D) : M (Fl Empty Empty) :=
  ((((pure v_source : M D) >>= fun x211 => (pure (.int 0) : M D) >>= fun x212 => dIndex x211 x212) >>= fun x213 => (pure (.int 0) : M D) >>= fun x214 => dGt x213 x214 >>= asB) >>= fun t215 => if t215 = true then (((((pure v_source : M D) >>= fun x218 => (pure (.int 0) : M D) >>= fun x219 => dIndex x218 x219) >>= dInt) >>= fun x220 => (pure v_many : M D) >>= fun x221 => dMod x220 x221) >>= fun v_found_217 => (((((pure v_source : M D) >>= fun x222 => (pure (.int 0) : M D) >>= fun x223 => dIndex x222 x223) >>= dInt) >>= fun x224 => (pure v_many : M D) >>= fun x225 => dFdiv x224 x225) >>= fun x227 => (pure v_source : M D) >>= fun x228 => (pure (.int 0) : M D) >>= fun x229 => setC x228 x229 x227 >>= fun _ => ((pure v_found_217 : M D) >>= fun d226 => pure (.ret d226)))) >>= fun f216 => thenM f216 Empty.elim else (((((((pure v_source : M D) >>= fun x230 => (pure (.int 1) : M D) >>= fun x231 => dIndex x230 x231) >>= fun x232 => (pure (.int 44497) : M D) >>= fun x233 => dMul x232 x233) >>= fun x234 => (pure (.int 9973) : M D) >>= fun x235 => dAdd x234 x235) >>= dInt) >>= fun x236 => (pure (.int 2147483647) : M D) >>= fun x237 => dMod x236 x237) >>= fun x251 => (pure v_source : M D) >>= fun x252 => (pure (.int 1) : M D) >>= fun x253 => setC x252 x253 x251 >>= fun _ => ((((((((pure v_source : M D) >>= fun x238 => (pure (.int 1) : M D) >>= fun x239 => dIndex x238 x239) >>= fun x242 => ((pure v_source : M D) >>= fun x240 => (pure (.int 1) : M D) >>= fun x241 => dIndex x240 x241) >>= fun x243 => dMul x242 x243) >>= dInt) >>= fun x244 => (pure (.int 2147483399) : M D) >>= fun x245 => dMod x244 x245) >>= fun x246 => (pure (.int 11) : M D) >>= fun x247 => dFdiv x246 x247) >>= fun x248 => (pure v_many : M D) >>= fun x249 => dMod x248 x249) >>= fun d250 => pure (.ret d250))))
def m__law_pick (v_source v_many : D) : M D := mB__law_pick v_source v_many >>= retM
theorem c__law_pick (fx : Fx P w K mg base) : CalD P w K mg base 1 "_law_pick" 2 (mk2 m__law_pick) := by
  have nd : (["source", "many", "found"] : List PySem.Str).Nodup := by decide
  obtain ⟨fd, F⟩ := fx.d__law_pick
  refine (cal_of (N := ["source", "many", "found"]) (ps := ["source", "many"]) (eN := eE) (k := 0) (mB := fun ds => match ds with | [v_source, v_many] => mB__law_pick v_source v_many | _ => M.stuck) F fx.g__law_pick ⟨rfl, rfl, rfl, by decide, rfl, by decide, by decide⟩ (fun _ _ _ _ _ _ us hl => match us, hl with | [_, _], _ => rfl) (fun cdv A outer s H E ds hl hcd hr => ?_)).to ?_
  · match ds, hl with
    | [v_source, v_many], _ => exact (db_if1 (dt_cmp op_gt rd_gt (de_ix (de_var 0 rfl rfl (visB rfl) rfl rfl) de_int (fun _ _ => rfl)) de_int rfl) (db_set 2 (de_op2 op_modN rd_mod (de_ty1 call_int1 rc_int rfl fx.b_int rfl (de_ix (de_var 0 rfl rfl (visB rfl) rfl rfl) de_int (fun _ _ => rfl)) (by decide) rfl rfl) (de_var 1 rfl rfl (visB rfl) rfl rfl)) nd rfl (locB rfl) rfl (by first | exact .inl rfl | exact .inr rfl) (fun v_found_217 => (db_setIx (de_op2 op_fdivA rd_fdiv (de_ty1 call_int1 rc_int rfl fx.b_int rfl (de_ix (de_var 0 rfl rfl (visB rfl) rfl rfl) de_int (fun _ _ => rfl)) (by decide) rfl rfl) (de_var 1 rfl rfl (visB rfl) rfl rfl)) (de_var 0 rfl rfl (visB rfl) rfl rfl) de_int rfl rfl rfl (fun _ => rfl) (db_ret (de_var 2 rfl rfl (visB rfl) rfl rfl))))) (db_setIx (de_op2 op_modN rd_mod (de_ty1 call_int1 rc_int rfl fx.b_int rfl (de_op2 op_addA rd_add (de_op2 op_mulA rd_mul (de_ix (de_var 0 rfl rfl (visB rfl) rfl rfl) de_int (fun _ _ => rfl)) de_int) de_int) (by decide) rfl rfl) de_int) (de_var 0 rfl rfl (visB rfl) rfl rfl) de_int rfl rfl rfl (fun _ => rfl) (db_ret (de_op2 op_modN rd_mod (de_op2 op_fdivA rd_fdiv (de_op2 op_modN rd_mod (de_ty1 call_int1 rc_int rfl fx.b_int rfl (de_op2 op_mulA rd_mul (de_ix (de_var 0 rfl rfl (visB rfl) rfl rfl) de_int (fun _ _ => rfl)) (de_ix (de_var 0 rfl rfl (visB rfl) rfl rfl) de_int (fun _ _ => rfl))) (by decide) rfl rfl) de_int) de_int) (de_var 1 rfl rfl (visB rfl) rfl rfl)))))
  · intro ds hl
    match ds, hl with
    | [_, _], _ => rfl
def mB__law_chosen (v_source v_things : D) : M (Fl Empty Empty) :=
  (((pure v_things : M D) >>= fun x258 => (((pure v_source : M D) >>= fun x256 => (((pure v_things : M D) >>= dLen) >>= fun x254 => (pure []) >>= fun r255 => pure (x254 :: r255)) >>= fun r257 => pure (x256 :: r257)) >>= mk2 m__law_pick) >>= fun x259 => dIndex x258 x259) >>= fun d260 => pure (.ret d260))
def m__law_chosen (v_source v_things : D) : M D := mB__law_chosen v_source v_things >>= retM
theorem c__law_chosen (fx : Fx P w K mg base) : CalD P w K mg base 2 "_law_chosen" 2 (mk2 m__law_chosen) := by
  have nd : (["source", "things"] : List PySem.Str).Nodup := by decide
  obtain ⟨fd, F⟩ := fx.d__law_chosen
  refine (cal_of (N := ["source", "things"]) (ps := ["source", "things"]) (eN := eE) (k := 1) (mB := fun ds => match ds with | [v_source, v_things] => mB__law_chosen v_source v_things | _ => M.stuck) F fx.g__law_chosen ⟨rfl, rfl, rfl, by decide, rfl, by decide, by decide⟩ (fun _ _ _ _ _ _ us hl => match us, hl with | [_, _], _ => rfl) (fun cdv A outer s H E ds hl hcd hr => ?_)).to ?_
  · match ds, hl with
    | [v_source, v_things], _ => exact (db_ret (de_ix (de_var 1 rfl rfl (visB rfl) rfl rfl) (de_call (c__law_pick fx) hr (by first | decide | omega) rfl (passF (L2N.takes_of rfl rfl rfl rfl)) (da_cons (de_var 0 rfl rfl (visB rfl) rfl rfl) (da_cons (de_b1 cr_lenA rc_len rfl fx.b_len rfl (de_var 1 rfl rfl (visB rfl) rfl rfl) (by decide) rfl rfl) da_nil rfl) rfl) rfl rfl rfl rfl rfl (mk2_len _)) (fun _ _ => rfl)))
  · intro ds hl
    match ds, hl with
    | [_, _], _ => rfl
def mB__law_is_bool (v_told v_due : D) : M (Fl Empty Empty) :=
  ((vAnd ((pure v_told : M D) >>= mIsi .bool) ((pure v_told : M D) >>= fun x261 => (pure v_due : M D) >>= fun x262 => dEq x261 x262)) >>= fun d263 => pure (.ret d263))
def m__law_is_bool (v_told v_due : D) : M D := mB__law_is_bool v_told v_due >>= retM
theorem c__law_is_bool (fx : Fx P w K mg base) : CalD P w K mg base 1 "_law_is_bool" 2 (mk2 m__law_is_bool) := by
  have nd : (["told", "due"] : List PySem.Str).Nodup := by decide
  obtain ⟨fd, F⟩ := fx.d__law_is_bool
  refine (cal_of (N := ["told", "due"]) (ps := ["told", "due"]) (eN := eE) (k := 0) (mB := fun ds => match ds with | [v_told, v_due] => mB__law_is_bool v_told v_due | _ => M.stuck) F fx.g__law_is_bool ⟨rfl, rfl, rfl, by decide, rfl, by decide, by decide⟩ (fun _ _ _ _ _ _ us hl => match us, hl with | [_, _], _ => rfl) (fun cdv A outer s H E ds hl hcd hr => ?_)).to ?_
  · match ds, hl with
    | [v_told, v_due], _ => exact (db_ret (de_and (de_isi (T := .bool) rfl fx.b_isinstance rfl fx.b_bool rfl (by decide) rfl (de_var 0 rfl rfl (visB rfl) rfl rfl) rfl rfl) (de_one (de_cmp (op_eqD (hu64 hr)) rd_eq (de_var 0 rfl rfl (visB rfl) rfl rfl) (de_var 1 rfl rfl (visB rfl) rfl rfl) rfl))))
  · intro ds hl
    match ds, hl with
    | [_, _], _ => rfl
def mB__law_any_value (m__law_any_value : D → D → M D) (v_source v_deep : D) : M (Fl Empty Empty) :=
  ((((pure .non : M D) >>= fun x305 => ((pure (.bl true) : M D) >>= fun x303 => ((pure (.bl false) : M D) >>= fun x301 => ((pure (.int 0) : M D) >>= fun x299 => ((pure (.int 1) : M D) >>= fun x297 => ((pure (.int 2) : M D) >>= fun x295 => (((pure (.int 3) : M D) >>= dNeg) >>= fun x293 => ((pure (.str []) : M D) >>= fun x291 => ((pure (.str [43]) : M D) >>= fun x289 => ((pure (.str [45, 48]) : M D) >>= fun x287 => (((pure []) >>= mkTup) >>= fun x285 => (((pure []) >>= fLst) >>= fun x283 => ((((pure (.str [45, 45]) : M D) >>= fun x267 => ((pure (.str [43, 48]) : M D) >>= fun x265 => (pure []) >>= fun r266 => pure (x265 :: r266)) >>= fun r268 => pure (x267 :: r268)) >>= mkTup) >>= fun x281 => ((((pure (.int 0) : M D) >>= fun x271 => ((pure (.int 1) : M D) >>= fun x269 => (pure []) >>= fun r270 => pure (x269 :: r270)) >>= fun r272 => pure (x271 :: r272)) >>= mkTup) >>= fun x279 => ((((((pure (.int 1) : M D) >>= fun x273 => (pure []) >>= fun r274 => pure (x273 :: r274)) >>= mkTup) >>= fun x275 => (pure []) >>= fun r276 => pure (x275 :: r276)) >>= mkTup) >>= fun x277 => (pure []) >>= fun r278 => pure (x277 :: r278)) >>= fun r280 => pure (x279 :: r280)) >>= fun r282 => pure (x281 :: r282)) >>= fun r284 => pure (x283 :: r284)) >>= fun r286 => pure (x285 :: r286)) >>= fun r288 => pure (x287 :: r288)) >>= fun r290 => pure (x289 :: r290)) >>= fun r292 => pure (x291 :: r292)) >>= fun r294 => pure (x293 :: r294)) >>= fun r296 => pure (x295 :: r296)) >>= fun r298 => pure (x297 :: r298)) >>= fun r300 => pure (x299 :: r300)) >>= fun r302 => pure (x301 :: r302)) >>= fun r304 => pure (x303 :: r304)) >>= fun r306 => pure (x305 :: r306)) >>= fLst) >>= fun v_simple_so_264 => ((((pure v_source : M D) >>= fun x310 => ((pure (.int 8) : M D) >>= fun x308 => (pure []) >>= fun r309 => pure (x308 :: r309)) >>= fun r311 => pure (x310 :: r311)) >>= mk2 m__law_pick) >>= fun v_way_307 => ((bOr ((pure v_deep : M D) >>= fun x312 => (pure (.int 1) : M D) >>= fun x313 => dLt x312 x313 >>= asB) ((pure v_way_307 : M D) >>= fun x314 => (pure (.int 5) : M D) >>= fun x315 => dLt x314 x315 >>= asB)) >>= fun t316 => if t316 = true then ((((pure v_source : M D) >>= fun x320 => ((pure v_simple_so_264 : M D) >>= fun x318 => (pure []) >>= fun r319 => pure (x318 :: r319)) >>= fun r321 => pure (x320 :: r321)) >>= mk2 m__law_chosen) >>= fun d322 => pure (.ret d322)) >>= fun f317 => thenM f317 Empty.elim else ((((((pure v_source : M D) >>= fun x341 => ((pure (.int 5) : M D) >>= fun x339 => (pure []) >>= fun r340 => pure (x339 :: r340)) >>= fun r342 => pure (x341 :: r342)) >>= mk2 m__law_pick) >>= rng1) >>= fun ds => compM dec1 (fun p343 => pure true) (fun p343 => (((pure v_source : M D) >>= fun x348 => (((pure v_deep : M D) >>= fun x344 => (pure (.int 1) : M D) >>= fun x345 => dSub x344 x345) >>= fun x346 => (pure []) >>= fun r347 => pure (x346 :: r347)) >>= fun r349 => pure (x348 :: r349)) >>= mk2 m__law_any_value)) ds >>= fLst) >>= fun v_parts_323 => ((((pure v_way_307 : M D) >>= fun x335 => (pure (.int 5) : M D) >>= fun x336 => dEq x335 x336 >>= asB) >>= fun t337 => if t337 = true then (pure v_parts_323 : M D) else ((pure v_parts_323 : M D) >>= dTuple)) >>= fun d338 => pure (.ret d338))))))
def m__law_any_value : Nat → D → D → M D
  | 0, _, _ => M.stuck
  | n + 1, v_source, v_deep => mB__law_any_value (m__law_any_value n) v_source v_deep >>= retM
theorem c__law_any_value (fx : Fx P w K mg base) (n : Nat) : CalD P w K mg base (3 + n) "_law_any_value" 2 (mk2 (m__law_any_value n)) := by
  induction n with
  | zero =>
    obtain ⟨fd, F⟩ := fx.d__law_any_value
    refine (cal_stuck (N := ["source", "deep", "simple_so", "way", "parts", "turn"]) (ps := ["source", "deep"]) (k := 2) F fx.g__law_any_value ⟨rfl, rfl, rfl, by decide, rfl, by decide, by decide⟩ (fun _ _ _ _ _ _ us hl => match us, hl with | [_, _], _ => rfl)).to ?_
    intro ds hl
    match ds, hl with
    | [_, _], _ => rfl
  | succ n ih =>
    have nd : (["source", "deep", "simple_so", "way", "parts", "turn"] : List PySem.Str).Nodup := by decide
    obtain ⟨fd, F⟩ := fx.d__law_any_value
    refine (cal_of (N := ["source", "deep", "simple_so", "way", "parts", "turn"]) (ps := ["source", "deep"]) (eN := eE) (k := 3 + n) (mB := fun ds => match ds with | [v_source, v_deep] => mB__law_any_value (m__law_any_value n) v_source v_deep | _ => M.stuck) F fx.g__law_any_value ⟨rfl, rfl, rfl, by decide, rfl, by decide, by decide⟩ (fun _ _ _ _ _ _ us hl => match us, hl with | [_, _], _ => rfl) (fun cdv A outer s H E ds hl hcd hr => ?_)).to ?_
    · match ds, hl with
      | [v_source, v_deep], _ => exact (db_set 2 (de_lstF fLst_ok (da_cons de_non (da_cons de_bl (da_cons de_bl (da_cons de_int (da_cons de_int (da_cons de_int (da_cons (de_un un_neg ru_neg de_int) (da_cons (de_str rfl rfl) (da_cons (de_str rfl rfl) (da_cons (de_str rfl rfl) (da_cons (de_tup da_nil) (da_cons (de_lstF fLst_ok da_nil) (da_cons (de_tup (da_cons (de_str rfl rfl) (da_cons (de_str rfl rfl) da_nil rfl) rfl)) (da_cons (de_tup (da_cons de_int (da_cons de_int da_nil rfl) rfl)) (da_cons (de_tup (da_cons (de_tup (da_cons de_int da_nil rfl)) da_nil rfl)) da_nil rfl) rfl) rfl) rfl) rfl) rfl) rfl) rfl) rfl) rfl) rfl) rfl) rfl) rfl) rfl)) nd rfl (locB rfl) rfl (by first | exact .inl rfl | exact .inr rfl) (fun v_simple_so_264 => (db_set 3 (de_call (c__law_pick fx) hr (by first | decide | omega) rfl (passF (L2N.takes_of rfl rfl rfl rfl)) (da_cons (de_var 0 rfl rfl (visB rfl) rfl rfl) (da_cons de_int da_nil rfl) rfl) rfl rfl rfl rfl rfl (mk2_len _)) nd rfl (locB rfl) rfl (by first | exact .inl rfl | exact .inr rfl) (fun v_way_307 => (db_if1 (DW.dt (dw_or (dt_cmp op_lt rd_lt (de_var 1 rfl rfl (visB rfl) rfl rfl) de_int rfl) (dw_or1 (dt_cmp op_lt rd_lt (de_var 3 rfl rfl (visB rfl) rfl rfl) de_int rfl)))) (db_ret (de_call (c__law_chosen fx) hr (by first | decide | omega) rfl (passF (L2N.takes_of rfl rfl rfl rfl)) (da_cons (de_var 0 rfl rfl (visB rfl) rfl rfl) (da_cons (de_var 2 rfl rfl (visB rfl) rfl rfl) da_nil rfl) rfl) rfl rfl rfl rfl rfl (mk2_len _))) (db_setLc (own := [("turn", 5)]) 4 fLst_ok rfl nd rfl rfl (by rfl) (g_name 5) (by decide) (di_range1 rfl fx.b_range (de_call (c__law_pick fx) hr (by first | decide | omega) rfl (passF (L2N.takes_of rfl rfl rfl rfl)) (da_cons (de_var 0 rfl rfl (visB rfl) rfl rfl) (da_cons de_int da_nil rfl) rfl) rfl rfl rfl rfl rfl (mk2_len _)) rfl) (blkOk_by rfl) (fun _ _ _ _ _ => (pg_name nd rfl (locB rfl))) (fun _ _ _ _ _ p343 => dts_nil) (fun _ _ _ _ _ p343 => (de_call ih hr (by first | decide | omega) rfl passB (da_cons (de_var 0 rfl rfl (visB rfl) rfl rfl) (da_cons (de_op2 op_sub rd_sub (de_var 1 rfl rfl (visB rfl) rfl rfl) de_int) da_nil rfl) rfl) rfl rfl rfl rfl rfl (mk2_len _))) (fun _ => rfl) (fun v_parts_323 => (db_ret (de_ifExp (dt_cmp (op_eqD (hu64 hr)) rd_eq (de_var 3 rfl rfl (visB rfl) rfl rfl) de_int rfl) (de_var 4 rfl rfl (visB rfl) rfl rfl) (de_ty1 call_tuple_of rc_tuple rfl fx.b_tuple rfl (de_var 4 rfl rfl (visB rfl) rfl rfl) (by decide) rfl rfl))))))))))
    · intro ds hl
      match ds, hl with
      | [_, _], _ => rfl
def mB__law_variant (m__law_variant : D → D → D → M D) (v_source v_value v_deep : D) : M (Fl Empty Empty) :=
  (((pure v_value : M D) >>= (dList newC)) >>= fun v_parts_350 => (((pure v_parts_350 : M D) >>= fun x351 => ((pure []) >>= fLst) >>= fun x352 => dEqC x351 x352 >>= asB) >>= fun t353 => if t353 = true then ((((((pure v_source : M D) >>= fun x357 => ((pure (.int 1) : M D) >>= fun x355 => (pure []) >>= fun r356 => pure (x355 :: r356)) >>= fun r358 => pure (x357 :: r358)) >>= mk2 (m__law_any_value 6)) >>= fun x359 => (pure []) >>= fun r360 => pure (x359 :: r360)) >>= mkTup) >>= fun d361 => pure (.ret d361)) >>= fun f354 => thenM f354 Empty.elim else ((((pure v_source : M D) >>= fun x364 => (((pure v_parts_350 : M D) >>= dLen) >>= fun x362 => (pure []) >>= fun r363 => pure (x362 :: r363)) >>= fun r365 => pure (x364 :: r365)) >>= mk2 m__law_pick) >>= fun v_spot_370 => (((pure v_source : M D) >>= fun x368 => ((pure (.int 9) : M D) >>= fun x366 => (pure []) >>= fun r367 => pure (x366 :: r367)) >>= fun r369 => pure (x368 :: r369)) >>= mk2 m__law_pick) >>= fun v_way_371 => (((pure v_parts_350 : M D) >>= fun x373 => (pure v_spot_370 : M D) >>= fun x374 => dIndex x373 x374) >>= fun v_inner_372 => ((bAnd (((pure v_inner_372 : M D) >>= mIsi .tuple) >>= asB) (bAnd ((pure v_deep : M D) >>= fun x375 => (pure (.int 0) : M D) >>= fun x376 => dGt x375 x376 >>= asB) ((pure v_way_371 : M D) >>= fun x377 => (pure (.int 2) : M D) >>= fun x378 => dGt x377 x378 >>= asB))) >>= fun t379 => if t379 = true then ((((((pure v_parts_350 : M D) >>= fun x381 => (pure none) >>= fun l382 => ((pure v_spot_370 : M D) >>= asI) >>= fun u383 => dSlice x381 l382 u383) >>= dTuple) >>= fun x394 => (((((pure v_source : M D) >>= fun x390 => ((pure v_inner_372 : M D) >>= fun x388 => (((pure v_deep : M D) >>= fun x384 => (pure (.int 1) : M D) >>= fun x385 => dSub x384 x385) >>= fun x386 => (pure []) >>= fun r387 => pure (x386 :: r387)) >>= fun r389 => pure (x388 :: r389)) >>= fun r391 => pure (x390 :: r391)) >>= mk3 m__law_variant) >>= fun x392 => (pure []) >>= fun r393 => pure (x392 :: r393)) >>= mkTup) >>= fun x395 => dAdd x394 x395) >>= fun x401 => (((pure v_parts_350 : M D) >>= fun x398 => (((pure v_spot_370 : M D) >>= fun x396 => (pure (.int 1) : M D) >>= fun x397 => dAdd x396 x397) >>= asI) >>= fun l399 => (pure none) >>= fun u400 => dSlice x398 l399 u400) >>= dTuple) >>= fun x402 => dAdd x401 x402) >>= fun d403 => pure (.ret d403)) >>= fun f380 => thenM f380 Empty.elim else (((pure v_way_371 : M D) >>= fun x404 => (pure (.int 0) : M D) >>= fun x405 => dEq x404 x405 >>= asB) >>= fun t406 => if t406 = true then (((((pure v_parts_350 : M D) >>= fun x408 => (pure none) >>= fun l409 => ((pure v_spot_370 : M D) >>= asI) >>= fun u410 => dSlice x408 l409 u410) >>= fun x416 => ((pure v_parts_350 : M D) >>= fun x413 => (((pure v_spot_370 : M D) >>= fun x411 => (pure (.int 1) : M D) >>= fun x412 => dAdd x411 x412) >>= asI) >>= fun l414 => (pure none) >>= fun u415 => dSlice x413 l414 u415) >>= fun x417 => dAdd x416 x417) >>= dTuple) >>= fun d418 => pure (.ret d418)) >>= fun f407 => thenM f407 Empty.elim else (((pure v_way_371 : M D) >>= fun x419 => (pure (.int 1) : M D) >>= fun x420 => dEq x419 x420 >>= asB) >>= fun t421 => if t421 = true then (((((pure v_parts_350 : M D) >>= fun x425 => (pure none) >>= fun l426 => (((pure v_spot_370 : M D) >>= fun x423 => (pure (.int 1) : M D) >>= fun x424 => dAdd x423 x424) >>= asI) >>= fun u427 => dSlice x425 l426 u427) >>= fun x431 => ((pure v_parts_350 : M D) >>= fun x428 => ((pure v_spot_370 : M D) >>= asI) >>= fun l429 => (pure none) >>= fun u430 => dSlice x428 l429 u430) >>= fun x432 => dAdd x431 x432) >>= dTuple) >>= fun d433 => pure (.ret d433)) >>= fun f422 => thenM f422 Empty.elim else (((pure v_way_371 : M D) >>= fun x434 => (pure (.int 2) : M D) >>= fun x435 => dEq x434 x435 >>= asB) >>= fun t436 => if t436 = true then ((((((pure v_parts_350 : M D) >>= fun x438 => (pure none) >>= fun l439 => ((pure v_spot_370 : M D) >>= asI) >>= fun u440 => dSlice x438 l439 u440) >>= fun x446 => (((pure v_parts_350 : M D) >>= fun x443 => ((pure v_spot_370 : M D) >>= asI) >>= fun l444 => (((pure v_spot_370 : M D) >>= fun x441 => (pure (.int 2) : M D) >>= fun x442 => dAdd x441 x442) >>= asI) >>= fun u445 => dSlice x443 l444 u445) >>= dRevL fLst) >>= fun x447 => dAdd x446 x447) >>= fun x453 => ((pure v_parts_350 : M D) >>= fun x450 => (((pure v_spot_370 : M D) >>= fun x448 => (pure (.int 2) : M D) >>= fun x449 => dAdd x448 x449) >>= asI) >>= fun l451 => (pure none) >>= fun u452 => dSlice x450 l451 u452) >>= fun x454 => dAdd x453 x454) >>= dTuple) >>= fun d455 => pure (.ret d455)) >>= fun f437 => thenM f437 Empty.elim else (((pure v_way_371 : M D) >>= fun x456 => (pure (.int 3) : M D) >>= fun x457 => dEq x456 x457 >>= asB) >>= fun t458 => if t458 = true then (((pure v_parts_350 : M D) >>= frz) >>= fun d460 => pure (.ret d460)) >>= fun f459 => thenM f459 Empty.elim else (((pure v_way_371 : M D) >>= fun x461 => (pure (.int 6) : M D) >>= fun x462 => dLt x461 x462 >>= asB) >>= fun t463 => (if t463 = true then ((((pure v_source : M D) >>= fun x468 => ((pure (.int 2) : M D) >>= fun x466 => (pure []) >>= fun r467 => pure (x466 :: r467)) >>= fun r469 => pure (x468 :: r469)) >>= mk2 (m__law_any_value 6)) >>= fun x470 => (pure v_parts_350 : M D) >>= fun x471 => (pure v_spot_370 : M D) >>= fun x472 => setC x471 x472 x470 >>= fun _ => (pure (.next ()))) else ((((pure .non : M D) >>= fun x518 => ((pure (.bl true) : M D) >>= fun x516 => ((pure (.bl false) : M D) >>= fun x514 => ((pure (.int 0) : M D) >>= fun x512 => ((pure (.int 1) : M D) >>= fun x510 => (((pure (.int 1) : M D) >>= dNeg) >>= fun x508 => ((pure (.int 2) : M D) >>= fun x506 => ((pure (.int 4) : M D) >>= fun x504 => ((pure (.str []) : M D) >>= fun x502 => ((pure (.str [43]) : M D) >>= fun x500 => ((pure (.str [45]) : M D) >>= fun x498 => ((pure (.str [48]) : M D) >>= fun x496 => ((pure (.str [63]) : M D) >>= fun x494 => ((pure (.str [120]) : M D) >>= fun x492 => ((pure (.str [43, 45]) : M D) >>= fun x490 => (((pure []) >>= mkTup) >>= fun x488 => ((((pure (.str [45]) : M D) >>= fun x474 => (pure []) >>= fun r475 => pure (x474 :: r475)) >>= mkTup) >>= fun x486 => ((((pure (.int 0) : M D) >>= fun x476 => (pure []) >>= fun r477 => pure (x476 :: r477)) >>= fLst) >>= fun x484 => ((((pure (.int 10) : M D) >>= fun x478 => (pure (.int 30) : M D) >>= fun x479 => dPow x478 x479) >>= fun x480 => (pure (.int 1) : M D) >>= fun x481 => dAdd x480 x481) >>= fun x482 => (pure []) >>= fun r483 => pure (x482 :: r483)) >>= fun r485 => pure (x484 :: r485)) >>= fun r487 => pure (x486 :: r487)) >>= fun r489 => pure (x488 :: r489)) >>= fun r491 => pure (x490 :: r491)) >>= fun r493 => pure (x492 :: r493)) >>= fun r495 => pure (x494 :: r495)) >>= fun r497 => pure (x496 :: r497)) >>= fun r499 => pure (x498 :: r499)) >>= fun r501 => pure (x500 :: r501)) >>= fun r503 => pure (x502 :: r503)) >>= fun r505 => pure (x504 :: r505)) >>= fun r507 => pure (x506 :: r507)) >>= fun r509 => pure (x508 :: r509)) >>= fun r511 => pure (x510 :: r511)) >>= fun r513 => pure (x512 :: r513)) >>= fun r515 => pure (x514 :: r515)) >>= fun r517 => pure (x516 :: r517)) >>= fun r519 => pure (x518 :: r519)) >>= fLst) >>= fun v_near_473 => ((((pure v_source : M D) >>= fun x522 => ((pure v_near_473 : M D) >>= fun x520 => (pure []) >>= fun r521 => pure (x520 :: r521)) >>= fun r523 => pure (x522 :: r523)) >>= mk2 m__law_chosen) >>= fun x524 => (pure v_parts_350 : M D) >>= fun x525 => (pure v_spot_370 : M D) >>= fun x526 => setC x525 x526 x524 >>= fun _ => (pure (.next ())))) : M (Fl (Unit) _)) >>= fun f464 => thenM f464 fun s465 => (((pure v_parts_350 : M D) >>= dTuple) >>= fun d527 => pure (.ret d527))))))))))))
def m__law_variant : Nat → D → D → D → M D
  | 0, _, _, _ => M.stuck
  | n + 1, v_source, v_value, v_deep => mB__law_variant (m__law_variant n) v_source v_value v_deep >>= retM
theorem c__law_variant (fx : Fx P w K mg base) (n : Nat) : CalD P w K mg base (10 + n) "_law_variant" 3 (mk3 (m__law_variant n)) := by
  induction n with
  | zero =>
    obtain ⟨fd, F⟩ := fx.d__law_variant
    refine (cal_stuck (N := ["source", "value", "deep", "parts", "spot", "way", "inner", "near"]) (ps := ["source", "value", "deep"]) (k := 9) F fx.g__law_variant ⟨rfl, rfl, rfl, by decide, rfl, by decide, by decide⟩ (fun _ _ _ _ _ _ us hl => match us, hl with | [_, _, _], _ => rfl)).to ?_
    intro ds hl
    match ds, hl with
    | [_, _, _], _ => rfl
  | succ n ih =>
    have nd : (["source", "value", "deep", "parts", "spot", "way", "inner", "near"] : List PySem.Str).Nodup := by decide
    obtain ⟨fd, F⟩ := fx.d__law_variant
    refine (cal_of (N := ["source", "value", "deep", "parts", "spot", "way", "inner", "near"]) (ps := ["source", "value", "deep"]) (eN := eE) (k := 10 + n) (mB := fun ds => match ds with | [v_source, v_value, v_deep] => mB__law_variant (m__law_variant n) v_source v_value v_deep | _ => M.stuck) F fx.g__law_variant ⟨rfl, rfl, rfl, by decide, rfl, by decide, by decide⟩ (fun _ _ _ _ _ _ us hl => match us, hl with | [_, _, _], _ => rfl) (fun cdv A outer s H E ds hl hcd hr => ?_)).to ?_
    · match ds, hl with
      | [v_source, v_value, v_deep], _ => exact (db_set 3 (de_ty1 call_list_of (rc_list newC_ok) rfl fx.b_list rfl (de_var 1 rfl rfl (visB rfl) rfl rfl) (by decide) rfl rfl) nd rfl (locB rfl) rfl (by first | exact .inl rfl | exact .inr rfl) (fun v_parts_350 => (db_if1 (dt_cmp (op_eqD (hu64 hr)) rd_eqC (de_var 3 rfl rfl (visB rfl) rfl rfl) (de_lstF fLst_ok da_nil) rfl) (db_ret (de_tup (da_cons (de_call (c__law_any_value fx 6) hr (by first | decide | omega) rfl (passF (L2N.takes_of rfl rfl rfl rfl)) (da_cons (de_var 0 rfl rfl (visB rfl) rfl rfl) (da_cons de_int da_nil rfl) rfl) rfl rfl rfl rfl rfl (mk2_len _)) da_nil rfl))) (db_par 4 5 (de_call (c__law_pick fx) hr (by first | decide | omega) rfl (passF (L2N.takes_of rfl rfl rfl rfl)) (da_cons (de_var 0 rfl rfl (visB rfl) rfl rfl) (da_cons (de_b1 cr_lenA rc_len rfl fx.b_len rfl (de_var 3 rfl rfl (visB rfl) rfl rfl) (by decide) rfl rfl) da_nil rfl) rfl) rfl rfl rfl rfl rfl (mk2_len _)) (de_call (c__law_pick fx) hr (by first | decide | omega) rfl (passF (L2N.takes_of rfl rfl rfl rfl)) (da_cons (de_var 0 rfl rfl (visB rfl) rfl rfl) (da_cons de_int da_nil rfl) rfl) rfl rfl rfl rfl rfl (mk2_len _)) rfl nd rfl rfl (by decide) rfl rfl rfl rfl rfl rfl (fun v_spot_370 v_way_371 => (db_set 6 (de_ix (de_var 3 rfl rfl (visB rfl) rfl rfl) (de_var 4 rfl rfl (visB rfl) rfl rfl) (fun _ _ => rfl)) nd rfl (locB rfl) rfl (by first | exact .inl rfl | exact .inr rfl) (fun v_inner_372 => (db_if1 (DW.dt (dw_and (dt_val (de_isi (T := .tuple) rfl fx.b_isinstance rfl fx.b_tuple rfl (by decide) rfl (de_var 6 rfl rfl (visB rfl) rfl rfl) rfl rfl) (fun _ => rfl)) (dw_and (dt_cmp op_gt rd_gt (de_var 2 rfl rfl (visB rfl) rfl rfl) de_int rfl) (dw_and1 (dt_cmp op_gt rd_gt (de_var 5 rfl rfl (visB rfl) rfl rfl) de_int rfl))))) (db_ret (de_op2 op_addA rd_add (de_op2 op_addA rd_add (de_ty1 call_tuple_of rc_tuple rfl fx.b_tuple rfl (de_slice (de_var 3 rfl rfl (visB rfl) rfl rfl) do_none (do_some (de_var 4 rfl rfl (visB rfl) rfl rfl))) (by decide) rfl rfl) (de_tup (da_cons (de_call ih hr (by first | decide | omega) rfl (passF (L2N.takes_of rfl rfl rfl rfl)) (da_cons (de_var 0 rfl rfl (visB rfl) rfl rfl) (da_cons (de_var 6 rfl rfl (visB rfl) rfl rfl) (da_cons (de_op2 op_sub rd_sub (de_var 2 rfl rfl (visB rfl) rfl rfl) de_int) da_nil rfl) rfl) rfl) rfl rfl rfl rfl rfl (mk3_len _)) da_nil rfl))) (de_ty1 call_tuple_of rc_tuple rfl fx.b_tuple rfl (de_slice (de_var 3 rfl rfl (visB rfl) rfl rfl) (do_some (de_op2 op_addA rd_add (de_var 4 rfl rfl (visB rfl) rfl rfl) de_int)) do_none) (by decide) rfl rfl))) (db_if1 (dt_cmp (op_eqD (hu64 hr)) rd_eq (de_var 5 rfl rfl (visB rfl) rfl rfl) de_int rfl) (db_ret (de_ty1 call_tuple_of rc_tuple rfl fx.b_tuple rfl (de_op2 op_addA rd_add (de_slice (de_var 3 rfl rfl (visB rfl) rfl rfl) do_none (do_some (de_var 4 rfl rfl (visB rfl) rfl rfl))) (de_slice (de_var 3 rfl rfl (visB rfl) rfl rfl) (do_some (de_op2 op_addA rd_add (de_var 4 rfl rfl (visB rfl) rfl rfl) de_int)) do_none)) (by decide) rfl rfl)) (db_if1 (dt_cmp (op_eqD (hu64 hr)) rd_eq (de_var 5 rfl rfl (visB rfl) rfl rfl) de_int rfl) (db_ret (de_ty1 call_tuple_of rc_tuple rfl fx.b_tuple rfl (de_op2 op_addA rd_add (de_slice (de_var 3 rfl rfl (visB rfl) rfl rfl) do_none (do_some (de_op2 op_addA rd_add (de_var 4 rfl rfl (visB rfl) rfl rfl) de_int))) (de_slice (de_var 3 rfl rfl (visB rfl) rfl rfl) (do_some (de_var 4 rfl rfl (visB rfl) rfl rfl)) do_none)) (by decide) rfl rfl)) (db_if1 (dt_cmp (op_eqD (hu64 hr)) rd_eq (de_var 5 rfl rfl (visB rfl) rfl rfl) de_int rfl) (db_ret (de_ty1 call_tuple_of rc_tuple rfl fx.b_tuple rfl (de_op2 op_addA rd_add (de_op2 op_addA rd_add (de_slice (de_var 3 rfl rfl (visB rfl) rfl rfl) do_none (do_some (de_var 4 rfl rfl (visB rfl) rfl rfl))) (de_revL fLst_ok (de_slice (de_var 3 rfl rfl (visB rfl) rfl rfl) (do_some (de_var 4 rfl rfl (visB rfl) rfl rfl)) (do_some (de_op2 op_addA rd_add (de_var 4 rfl rfl (visB rfl) rfl rfl) de_int))))) (de_slice (de_var 3 rfl rfl (visB rfl) rfl rfl) (do_some (de_op2 op_addA rd_add (de_var 4 rfl rfl (visB rfl) rfl rfl) de_int)) do_none)) (by decide) rfl rfl)) (db_if1 (dt_cmp (op_eqD (hu64 hr)) rd_eq (de_var 5 rfl rfl (visB rfl) rfl rfl) de_int rfl) (db_ret (de_frz (de_var 3 rfl rfl (visB rfl) rfl rfl))) (db_if (e' := fun (s465 : Unit) => [.val v_source, .val v_value, .val v_deep, .val v_parts_350, .val v_spot_370, .val v_way_371, .val v_inner_372, .none]) (dt_cmp op_lt rd_lt (de_var 5 rfl rfl (visB rfl) rfl rfl) de_int rfl) (db_setIx (de_call (c__law_any_value fx 6) hr (by first | decide | omega) rfl (passF (L2N.takes_of rfl rfl rfl rfl)) (da_cons (de_var 0 rfl rfl (visB rfl) rfl rfl) (da_cons de_int da_nil rfl) rfl) rfl rfl rfl rfl rfl (mk2_len _)) (de_var 3 rfl rfl (visB rfl) rfl rfl) (de_var 4 rfl rfl (visB rfl) rfl rfl) rfl rfl rfl (fun _ => rfl) (db_nil (s := ()) (.k (.k (.k (.k (.k (.k (.k (.k .nil)))))))))) (db_set 7 (de_lstF fLst_ok (da_cons de_non (da_cons de_bl (da_cons de_bl (da_cons de_int (da_cons de_int (da_cons (de_un un_neg ru_neg de_int) (da_cons de_int (da_cons de_int (da_cons (de_str rfl rfl) (da_cons (de_str rfl rfl) (da_cons (de_str rfl rfl) (da_cons (de_str rfl rfl) (da_cons (de_str rfl rfl) (da_cons (de_str rfl rfl) (da_cons (de_str rfl rfl) (da_cons (de_tup da_nil) (da_cons (de_tup (da_cons (de_str rfl rfl) da_nil rfl)) (da_cons (de_lstF fLst_ok (da_cons de_int da_nil rfl)) (da_cons (de_op2 op_addA rd_add (de_op2 op_pow rd_pow de_int de_int) de_int) da_nil rfl) rfl) rfl) rfl) rfl) rfl) rfl) rfl) rfl) rfl) rfl) rfl) rfl) rfl) rfl) rfl) rfl) rfl) rfl)) nd rfl (locB rfl) rfl (by first | exact .inl rfl | exact .inr rfl) (fun v_near_473 => (db_setIx (de_call (c__law_chosen fx) hr (by first | decide | omega) rfl (passF (L2N.takes_of rfl rfl rfl rfl)) (da_cons (de_var 0 rfl rfl (visB rfl) rfl rfl) (da_cons (de_var 7 rfl rfl (visB rfl) rfl rfl) da_nil rfl) rfl) rfl rfl rfl rfl rfl (mk2_len _)) (de_var 3 rfl rfl (visB rfl) rfl rfl) (de_var 4 rfl rfl (visB rfl) rfl rfl) rfl rfl rfl (fun _ => rfl) (db_nil (s := ()) (.k (.k (.k (.k (.k (.k (.k (.n .nil)))))))))))) (fun s465 => (db_ret (de_ty1 call_tuple_of rc_tuple rfl fx.b_tuple rfl (de_var 3 rfl rfl (visB rfl) rfl rfl) (by decide) rfl rfl))))))))))))))))
    · intro ds hl
      match ds, hl with
      | [_, _, _], _ => rfl
def mB__law_whole (v_value v_low v_high : D) : M (Fl Empty Empty) :=
  ((vAnd ((pure v_value : M D) >>= mIsi .int) (vAnd (((pure v_value : M D) >>= mIsi .bool) >>= asB >>= fun b528 => pure (.bl (!b528))) (chM dLe dLe (pure v_low : M D) (pure v_value : M D) (pure v_high : M D)))) >>= fun d529 => pure (.ret d529))
def m__law_whole (v_value v_low v_high : D) : M D := mB__law_whole v_value v_low v_high >>= retM
theorem c__law_whole (fx : Fx P w K mg base) : CalD P w K mg base 1 "_law_whole" 3 (mk3 m__law_whole) := by
  have nd : (["value", "low", "high"] : List PySem.Str).Nodup := by decide
  obtain ⟨fd, F⟩ := fx.d__law_whole
  refine (cal_of (N := ["value", "low", "high"]) (ps := ["value", "low", "high"]) (eN := eE) (k := 0) (mB := fun ds => match ds with | [v_value, v_low, v_high] => mB__law_whole v_value v_low v_high | _ => M.stuck) F fx.g__law_whole ⟨rfl, rfl, rfl, by decide, rfl, by decide, by decide⟩ (fun _ _ _ _ _ _ us hl => match us, hl with | [_, _, _], _ => rfl) (fun cdv A outer s H E ds hl hcd hr => ?_)).to ?_
  · match ds, hl with
    | [v_value, v_low, v_high], _ => exact (db_ret (de_and (de_isi (T := .int) rfl fx.b_isinstance rfl fx.b_int rfl (by decide) rfl (de_var 0 rfl rfl (visB rfl) rfl rfl) rfl rfl) (de_and (de_not (de_isi (T := .bool) rfl fx.b_isinstance rfl fx.b_bool rfl (by decide) rfl (de_var 0 rfl rfl (visB rfl) rfl rfl) rfl rfl)) (de_one (de_chain op_le op_le rd_le rd_le (de_var 1 rfl rfl (visB rfl) rfl rfl) (de_var 0 rfl rfl (visB rfl) rfl rfl) (de_var 2 rfl rfl (visB rfl) rfl rfl) rfl)))))
  · intro ds hl
    match ds, hl with
    | [_, _, _], _ => rfl
def mB__law_error (isE : Str → Bool) : M (Fl Empty Empty) :=
  ((((((pure (.str [109, 111, 100, 101, 108]) : M D) >>= fun x533 => ((pure (.bl (isE "InvalidModel")) : M D) >>= fun x531 => (pure []) >>= fun r532 => pure (x531 :: r532)) >>= fun r534 => pure (x533 :: r534)) >>= mkTup) >>= fun x541 => ((((pure (.str [115, 105, 122, 101, 115]) : M D) >>= fun x537 => ((pure (.bl (isE "InvalidSizes")) : M D) >>= fun x535 => (pure []) >>= fun r536 => pure (x535 :: r536)) >>= fun r538 => pure (x537 :: r538)) >>= mkTup) >>= fun x539 => (pure []) >>= fun r540 => pure (x539 :: r540)) >>= fun r542 => pure (x541 :: r542)) >>= fLst) >>= fun v_some_530 => (((pure v_some_530 : M D) >>= fun x556 => (((((pure (.str [113, 117, 97, 110, 116, 105, 116, 121]) : M D) >>= fun x546 => ((pure (.bl (isE "InvalidQuantity")) : M D) >>= fun x544 => (pure []) >>= fun r545 => pure (x544 :: r545)) >>= fun r547 => pure (x546 :: r547)) >>= mkTup) >>= fun x554 => ((((pure (.str [108, 111, 116]) : M D) >>= fun x550 => ((pure (.bl (isE "InvalidLot")) : M D) >>= fun x548 => (pure []) >>= fun r549 => pure (x548 :: r549)) >>= fun r551 => pure (x550 :: r551)) >>= mkTup) >>= fun x552 => (pure []) >>= fun r553 => pure (x552 :: r553)) >>= fun r555 => pure (x554 :: r555)) >>= fLst) >>= fun x557 => dCat newC x556 x557) >>= fun v_some_543 => (((pure v_some_543 : M D) >>= fun x571 => (((((pure (.str [115, 105, 103, 110]) : M D) >>= fun x561 => ((pure (.bl (isE "InvalidSign")) : M D) >>= fun x559 => (pure []) >>= fun r560 => pure (x559 :: r560)) >>= fun r562 => pure (x561 :: r562)) >>= mkTup) >>= fun x569 => ((((pure (.str [112, 108, 97, 99, 101]) : M D) >>= fun x565 => ((pure (.bl (isE "InvalidPlace")) : M D) >>= fun x563 => (pure []) >>= fun r564 => pure (x563 :: r564)) >>= fun r566 => pure (x565 :: r566)) >>= mkTup) >>= fun x567 => (pure []) >>= fun r568 => pure (x567 :: r568)) >>= fun r570 => pure (x569 :: r570)) >>= fLst) >>= fun x572 => dCat newC x571 x572) >>= fun v_some_558 => (((pure v_some_558 : M D) >>= fun x586 => (((((pure (.str [115, 101, 101, 110]) : M D) >>= fun x576 => ((pure (.bl (isE "InvalidSeen")) : M D) >>= fun x574 => (pure []) >>= fun r575 => pure (x574 :: r575)) >>= fun r577 => pure (x576 :: r577)) >>= mkTup) >>= fun x584 => ((((pure (.str [117, 110, 108, 105, 107, 101]) : M D) >>= fun x580 => ((pure (.bl (isE "Unlike")) : M D) >>= fun x578 => (pure []) >>= fun r579 => pure (x578 :: r579)) >>= fun r581 => pure (x580 :: r581)) >>= mkTup) >>= fun x582 => (pure []) >>= fun r583 => pure (x582 :: r583)) >>= fun r585 => pure (x584 :: r585)) >>= fLst) >>= fun x587 => dCat newC x586 x587) >>= fun v_some_573 => (((pure v_some_573 : M D) >>= fun x601 => (((((pure (.str [117, 110, 100, 111]) : M D) >>= fun x591 => ((pure (.bl (isE "NothingToUndo")) : M D) >>= fun x589 => (pure []) >>= fun r590 => pure (x589 :: r590)) >>= fun r592 => pure (x591 :: r592)) >>= mkTup) >>= fun x599 => ((((pure (.str [109, 97, 110, 121]) : M D) >>= fun x595 => ((pure (.bl (isE "TooMany")) : M D) >>= fun x593 => (pure []) >>= fun r594 => pure (x593 :: r594)) >>= fun r596 => pure (x595 :: r596)) >>= mkTup) >>= fun x597 => (pure []) >>= fun r598 => pure (x597 :: r598)) >>= fun r600 => pure (x599 :: r600)) >>= fLst) >>= fun x602 => dCat newC x601 x602) >>= fun v_some_588 => (((pure v_some_588 : M D) >>= fun x603 => isC x603 >>= fun _ => (((pure (.str [116, 101, 120, 116]) : M D) >>= fun x607 => ((pure (.bl (isE "InvalidText")) : M D) >>= fun x605 => (pure []) >>= fun r606 => pure (x605 :: r606)) >>= fun r608 => pure (x607 :: r608)) >>= mkTup) >>= fun x604 => appC x603 x604) >>= fun _ => (((pure (.str [32]) : M D) >>= fun x609 => isS x609 >>= fun _ => (((pure v_some_588 : M D) >>= frz) >>= fun d612 => asF d612 >>= fun ds613 => compM dec2 (fun p611 => ((pure p611.2 : M D) >>= asB)) (fun p611 => (pure p611.1 : M D)) ds613 >>= fLst) >>= fun x610 => dJoin x609 x610) >>= fun d614 => pure (.ret d614))))))))
def m__law_error (isE : Str → Bool) : M D := mB__law_error isE >>= retM
theorem ref_of (fx : Fx P w K mg base) : RefE P w K mg base 1 errCls (fun c => m__law_error (isEc c)) := by
  have nd : (["e", "some", "word_so", "good"] : List PySem.Str).Nodup := by decide
  obtain ⟨fd, F⟩ := fx.d__law_error
  refine ⟨⟨He.ga K "_law_error", fd, fx.g__law_error, F.kp, F.bindsN (fun _ _ _ _ _ _ us hl => match us, hl with | [_], _ => rfl), fun c hc => ⟨fnP_of (N := ["e", "some", "word_so", "good"]) (k := 0) (eN := eE) (mB := mB__law_error (isEc c)) F ⟨rfl, rfl, rfl, by decide, rfl, by decide, by decide⟩ (fun cdv A outer s H p hot hz hf hr => ?_), fx.p_err c hc⟩⟩⟩
  exact (db_set 1 (de_lstF fLst_ok (da_cons (de_tup (da_cons (de_str rfl rfl) (da_cons (de_isE (p := p) (i := 0) List.mem_cons_self (fx.x_err c hc) hz hf (fx.k_err c hc "InvalidModel" (by decide)) rfl fx.b_isinstance rfl fx.g_InvalidModel rfl rfl rfl (visB rfl) rfl rfl rfl rfl) da_nil rfl) rfl)) (da_cons (de_tup (da_cons (de_str rfl rfl) (da_cons (de_isE (p := p) (i := 0) List.mem_cons_self (fx.x_err c hc) hz hf (fx.k_err c hc "InvalidSizes" (by decide)) rfl fx.b_isinstance rfl fx.g_InvalidSizes rfl rfl rfl (visB rfl) rfl rfl rfl rfl) da_nil rfl) rfl)) da_nil rfl) rfl)) nd rfl (locB rfl) rfl (by first | exact .inl rfl | exact .inr rfl) (fun v_some_530 => (db_set 1 (de_op2 op_cat (rd_cat newC_ok) (de_var 1 rfl rfl (visB rfl) rfl rfl) (de_lstF fLst_ok (da_cons (de_tup (da_cons (de_str rfl rfl) (da_cons (de_isE (p := p) (i := 0) List.mem_cons_self (fx.x_err c hc) hz hf (fx.k_err c hc "InvalidQuantity" (by decide)) rfl fx.b_isinstance rfl fx.g_InvalidQuantity rfl rfl rfl (visB rfl) rfl rfl rfl rfl) da_nil rfl) rfl)) (da_cons (de_tup (da_cons (de_str rfl rfl) (da_cons (de_isE (p := p) (i := 0) List.mem_cons_self (fx.x_err c hc) hz hf (fx.k_err c hc "InvalidLot" (by decide)) rfl fx.b_isinstance rfl fx.g_InvalidLot rfl rfl rfl (visB rfl) rfl rfl rfl rfl) da_nil rfl) rfl)) da_nil rfl) rfl))) nd rfl (locB rfl) rfl (by first | exact .inl rfl | exact .inr rfl) (fun v_some_543 => (db_set 1 (de_op2 op_cat (rd_cat newC_ok) (de_var 1 rfl rfl (visB rfl) rfl rfl) (de_lstF fLst_ok (da_cons (de_tup (da_cons (de_str rfl rfl) (da_cons (de_isE (p := p) (i := 0) List.mem_cons_self (fx.x_err c hc) hz hf (fx.k_err c hc "InvalidSign" (by decide)) rfl fx.b_isinstance rfl fx.g_InvalidSign rfl rfl rfl (visB rfl) rfl rfl rfl rfl) da_nil rfl) rfl)) (da_cons (de_tup (da_cons (de_str rfl rfl) (da_cons (de_isE (p := p) (i := 0) List.mem_cons_self (fx.x_err c hc) hz hf (fx.k_err c hc "InvalidPlace" (by decide)) rfl fx.b_isinstance rfl fx.g_InvalidPlace rfl rfl rfl (visB rfl) rfl rfl rfl rfl) da_nil rfl) rfl)) da_nil rfl) rfl))) nd rfl (locB rfl) rfl (by first | exact .inl rfl | exact .inr rfl) (fun v_some_558 => (db_set 1 (de_op2 op_cat (rd_cat newC_ok) (de_var 1 rfl rfl (visB rfl) rfl rfl) (de_lstF fLst_ok (da_cons (de_tup (da_cons (de_str rfl rfl) (da_cons (de_isE (p := p) (i := 0) List.mem_cons_self (fx.x_err c hc) hz hf (fx.k_err c hc "InvalidSeen" (by decide)) rfl fx.b_isinstance rfl fx.g_InvalidSeen rfl rfl rfl (visB rfl) rfl rfl rfl rfl) da_nil rfl) rfl)) (da_cons (de_tup (da_cons (de_str rfl rfl) (da_cons (de_isE (p := p) (i := 0) List.mem_cons_self (fx.x_err c hc) hz hf (fx.k_err c hc "Unlike" (by decide)) rfl fx.b_isinstance rfl fx.g_Unlike rfl rfl rfl (visB rfl) rfl rfl rfl rfl) da_nil rfl) rfl)) da_nil rfl) rfl))) nd rfl (locB rfl) rfl (by first | exact .inl rfl | exact .inr rfl) (fun v_some_573 => (db_set 1 (de_op2 op_cat (rd_cat newC_ok) (de_var 1 rfl rfl (visB rfl) rfl rfl) (de_lstF fLst_ok (da_cons (de_tup (da_cons (de_str rfl rfl) (da_cons (de_isE (p := p) (i := 0) List.mem_cons_self (fx.x_err c hc) hz hf (fx.k_err c hc "NothingToUndo" (by decide)) rfl fx.b_isinstance rfl fx.g_NothingToUndo rfl rfl rfl (visB rfl) rfl rfl rfl rfl) da_nil rfl) rfl)) (da_cons (de_tup (da_cons (de_str rfl rfl) (da_cons (de_isE (p := p) (i := 0) List.mem_cons_self (fx.x_err c hc) hz hf (fx.k_err c hc "TooMany" (by decide)) rfl fx.b_isinstance rfl fx.g_TooMany rfl rfl rfl (visB rfl) rfl rfl rfl rfl) da_nil rfl) rfl)) da_nil rfl) rfl))) nd rfl (locB rfl) rfl (by first | exact .inl rfl | exact .inr rfl) (fun v_some_588 => (db_expr (de_append (de_var 1 rfl rfl (visB rfl) rfl rfl) (de_tup (da_cons (de_str rfl rfl) (da_cons (de_isE (p := p) (i := 0) List.mem_cons_self (fx.x_err c hc) hz hf (fx.k_err c hc "InvalidText" (by decide)) rfl fx.b_isinstance rfl fx.g_InvalidText rfl rfl rfl (visB rfl) rfl rfl rfl rfl) da_nil rfl) rfl)) rfl rfl rfl rfl) rfl (db_ret (de_join (de_str rfl rfl) (de_lcH (own := [("word_so", 2), ("good", 3)]) fLst_ok hot List.mem_cons_self nd (g_tup2 2 3) (by decide) (de_frz (de_var 1 rfl rfl (visB rfl) rfl rfl)) (blkOk_by rfl) (fun _ _ _ _ _ => (pgp_tup hot (pgs_cons (pg_name nd rfl (locB rfl)) (pgs_cons (pg_name nd rfl (locB rfl)) pgs_nil)) rfl rfl)) (fun _ _ _ _ _ p611 => dts_one (dt_val (de_var 3 rfl rfl (visB rfl) rfl rfl) (fun _ => rfl))) (fun _ _ _ _ _ p611 => (de_var 2 rfl rfl (visB rfl) rfl rfl)) (fun _ => rfl)) rfl rfl rfl)))))))))))))
def cands1 : List (Str × (List D → M D)) := [("fillings", mk1 m_fillings), ("unknown", mk1 m_unknown)]
def cands2 : List (Str × (List D → M D)) := [("are_sizes", mk2 m_are_sizes)]
def mB__law_by_one (v_call v_one : D) : M (Fl Empty Empty) :=
  ((tabC 0 "_law_by_one" (lamQ "_law_by_one") >>= fun _ => catchM errCls (fun c => m__law_error (isEc c)) (lookD cands1 v_call >>= fun mf617 => ((pure v_one : M D) >>= fun x615 => (pure []) >>= fun r616 => pure (x615 :: r616)) >>= mf617)) >>= fun d618 => pure (.ret d618))
def m__law_by_one (v_call v_one : D) : M D := mB__law_by_one v_call v_one >>= retM
theorem c__law_by_one (fx : Fx P w K mg base) : CalD P w K mg base 7 "_law_by_one" 2 (mk2 m__law_by_one) := by
  have nd : (["call", "one"] : List PySem.Str).Nodup := by decide
  obtain ⟨fd, F⟩ := fx.d__law_by_one
  obtain ⟨fdr, Fr⟩ := fx.d__law_refused
  refine (cal_of (N := ["call", "one"]) (ps := ["call", "one"]) (eN := eE) (k := 6) (mB := fun ds => match ds with | [v_call, v_one] => mB__law_by_one v_call v_one | _ => M.stuck) F fx.g__law_by_one ⟨rfl, rfl, rfl, by decide, rfl, by decide, by decide⟩ (fun _ _ _ _ _ _ us hl => match us, hl with | [_, _], _ => rfl) (fun cdv A outer s H E ds hl hcd hr => ?_)).to ?_
  · match ds, hl with
    | [v_call, v_one], _ => exact (db_ret (de_refused (ke := 1) (k := 4) 0 Fr fx.g__law_refused rfl ⟨rfl, rfl, rfl, by decide, rfl, by decide, by decide⟩ (fun _ _ _ _ _ _ us hl => match us, hl with | [_], _ => rfl) rfl rfl rfl (visB rfl) (ref_of fx) fx.g_PushError fx.t__law_by_one hcd rfl (hr.mono (by decide)) (by decide) (LamX.lamS_by rfl) rfl (fun _ _ _ _ _ => rfl) (fun A outer s H E f c' hr => (de_callD (i := 0) (k := 4) (n := 1) (cands := cands1) rfl rfl (visB rfl) (candC ⟨(c_fillings fx).mono (by decide), fx.g_fillings, mk1_len _⟩ (candC ⟨(c_unknown fx).mono (by decide), fx.g_unknown, mk1_len _⟩ candN)) (hr.mono (by decide)) (passF (L2N.takes_of rfl rfl rfl rfl)) (da_cons (de_var 1 rfl rfl (visB rfl) rfl rfl) da_nil rfl) rfl rfl rfl rfl))))
  · intro ds hl
    match ds, hl with
    | [_, _], _ => rfl
def mB__law_by_two (v_call v_one v_other : D) : M (Fl Empty Empty) :=
  ((tabC 1 "_law_by_two" (lamQ "_law_by_two") >>= fun _ => catchM errCls (fun c => m__law_error (isEc c)) (lookD cands2 v_call >>= fun mf623 => ((pure v_one : M D) >>= fun x621 => ((pure v_other : M D) >>= fun x619 => (pure []) >>= fun r620 => pure (x619 :: r620)) >>= fun r622 => pure (x621 :: r622)) >>= mf623)) >>= fun d624 => pure (.ret d624))
def m__law_by_two (v_call v_one v_other : D) : M D := mB__law_by_two v_call v_one v_other >>= retM
theorem c__law_by_two (fx : Fx P w K mg base) : CalD P w K mg base 7 "_law_by_two" 3 (mk3 m__law_by_two) := by
  have nd : (["call", "one", "other"] : List PySem.Str).Nodup := by decide
  obtain ⟨fd, F⟩ := fx.d__law_by_two
  obtain ⟨fdr, Fr⟩ := fx.d__law_refused
  refine (cal_of (N := ["call", "one", "other"]) (ps := ["call", "one", "other"]) (eN := eE) (k := 6) (mB := fun ds => match ds with | [v_call, v_one, v_other] => mB__law_by_two v_call v_one v_other | _ => M.stuck) F fx.g__law_by_two ⟨rfl, rfl, rfl, by decide, rfl, by decide, by decide⟩ (fun _ _ _ _ _ _ us hl => match us, hl with | [_, _, _], _ => rfl) (fun cdv A outer s H E ds hl hcd hr => ?_)).to ?_
  · match ds, hl with
    | [v_call, v_one, v_other], _ => exact (db_ret (de_refused (ke := 1) (k := 4) 1 Fr fx.g__law_refused rfl ⟨rfl, rfl, rfl, by decide, rfl, by decide, by decide⟩ (fun _ _ _ _ _ _ us hl => match us, hl with | [_], _ => rfl) rfl rfl rfl (visB rfl) (ref_of fx) fx.g_PushError fx.t__law_by_two hcd rfl (hr.mono (by decide)) (by decide) (LamX.lamS_by rfl) rfl (fun _ _ _ _ _ => rfl) (fun A outer s H E f c' hr => (de_callD (i := 0) (k := 4) (n := 2) (cands := cands2) rfl rfl (visB rfl) (candC ⟨(c_are_sizes fx).mono (by decide), fx.g_are_sizes, mk2_len _⟩ candN) (hr.mono (by decide)) (passF (L2N.takes_of rfl rfl rfl rfl)) (da_cons (de_var 1 rfl rfl (visB rfl) rfl rfl) (da_cons (de_var 2 rfl rfl (visB rfl) rfl rfl) da_nil rfl) rfl) rfl rfl rfl rfl))))
  · intro ds hl
    match ds, hl with
    | [_, _, _], _ => rfl
def mB__law_drawn_model (v_source v_most v_hidden : D) : M (Fl Empty Empty) :=
  (((pure (.int 1) : M D) >>= fun x630 => (((pure v_source : M D) >>= fun x628 => ((pure v_most : M D) >>= fun x626 => (pure []) >>= fun r627 => pure (x626 :: r627)) >>= fun r629 => pure (x628 :: r629)) >>= mk2 m__law_pick) >>= fun x631 => dAdd x630 x631) >>= fun v_many_625 => ((bAnd ((pure v_most : M D) >>= fun x632 => (pure (.int 2) : M D) >>= fun x633 => dGt x632 x633 >>= asB) ((((pure v_source : M D) >>= fun x636 => ((pure (.int 3) : M D) >>= fun x634 => (pure []) >>= fun r635 => pure (x634 :: r635)) >>= fun r637 => pure (x636 :: r637)) >>= mk2 m__law_pick) >>= fun x638 => (pure (.int 0) : M D) >>= fun x639 => dGt x638 x639 >>= asB)) >>= fun t640 => (if t640 = true then (((pure v_many_625 : M D) >>= fun x644 => (pure (.int 3) : M D) >>= fun x645 => dMax2 x644 x645) >>= fun v_many_643 => (pure (.next v_many_643))) else (pure (.next v_many_625)) : M (Fl (D) _)) >>= fun f641 => thenM f641 fun s642 => ((((((pure v_source : M D) >>= fun x658 => ((((pure (.str [45, 43, 48]) : M D) >>= fun x654 => ((pure (.str [45, 43, 48]) : M D) >>= fun x652 => ((pure (.str [45, 45, 43, 48, 48]) : M D) >>= fun x650 => ((pure (.str [45, 43, 43, 48]) : M D) >>= fun x648 => ((pure (.str [45, 43]) : M D) >>= fun x646 => (pure []) >>= fun r647 => pure (x646 :: r647)) >>= fun r649 => pure (x648 :: r649)) >>= fun r651 => pure (x650 :: r651)) >>= fun r653 => pure (x652 :: r653)) >>= fun r655 => pure (x654 :: r655)) >>= fLst) >>= fun x656 => (pure []) >>= fun r657 => pure (x656 :: r657)) >>= fun r659 => pure (x658 :: r659)) >>= mk2 m__law_chosen) >>= fun x798 => (((pure []) >>= newC) >>= fun x800 => (pure []) >>= fun r801 => pure (x800 :: r801)) >>= fun r799 => pure (x798 :: r799)) >>= mkTup) >>= fun d730 => ofO (dec2 d730) >>= fun p729 => (((pure s642 : M D) >>= rng1) >>= fun ds797 => loopM dec1 (fun (s731 : Unit) p732 => ((((pure s642 : M D) >>= rng1) >>= fun ds => compM dec1 (fun p763 => pure true) (fun p763 => ((pure p729.1 : M D) >>= fun x768 => (((pure v_source : M D) >>= fun x766 => (((pure p729.1 : M D) >>= dLen) >>= fun x764 => (pure []) >>= fun r765 => pure (x764 :: r765)) >>= fun r767 => pure (x766 :: r767)) >>= mk2 m__law_pick) >>= fun x769 => dIndex x768 x769)) ds >>= newC) >>= fun v_row_so_734 => ((((pure v_source : M D) >>= fun x756 => ((((pure (.str [45]) : M D) >>= fun x752 => ((pure (.str [45]) : M D) >>= fun x750 => ((pure (.str [45]) : M D) >>= fun x748 => ((pure (.str [48]) : M D) >>= fun x746 => (((pure v_row_so_734 : M D) >>= fun x742 => (pure p732 : M D) >>= fun x743 => dIndex x742 x743) >>= fun x744 => (pure []) >>= fun r745 => pure (x744 :: r745)) >>= fun r747 => pure (x746 :: r747)) >>= fun r749 => pure (x748 :: r749)) >>= fun r751 => pure (x750 :: r751)) >>= fun r753 => pure (x752 :: r753)) >>= fLst) >>= fun x754 => (pure []) >>= fun r755 => pure (x754 :: r755)) >>= fun r757 => pure (x756 :: r757)) >>= mk2 m__law_chosen) >>= fun x760 => (pure v_row_so_734 : M D) >>= fun x761 => (pure p732 : M D) >>= fun x762 => setC x761 x762 x760 >>= fun _ => (((pure p729.2 : M D) >>= fun x758 => isC x758 >>= fun _ => (pure v_row_so_734 : M D) >>= fun x759 => appC x758 x759) >>= fun _ => (pure (.next ())))))) ds797 () >>= fun f733 => thenL f733 fun s731 => (((((pure v_source : M D) >>= fun x774 => (((pure v_hidden : M D) >>= fun x770 => (pure (.int 1) : M D) >>= fun x771 => dAdd x770 x771) >>= fun x772 => (pure []) >>= fun r773 => pure (x772 :: r773)) >>= fun r775 => pure (x774 :: r775)) >>= mk2 m__law_pick) >>= rng1) >>= fun ds796 => loopM dec1 (fun (s776 : Unit) p777 => ((pure (.str [63]) : M D) >>= fun x789 => ((pure p729.2 : M D) >>= fun x783 => (((pure v_source : M D) >>= fun x781 => ((pure s642 : M D) >>= fun x779 => (pure []) >>= fun r780 => pure (x779 :: r780)) >>= fun r782 => pure (x781 :: r782)) >>= mk2 m__law_pick) >>= fun x784 => dIndex x783 x784) >>= fun x790 => (((pure v_source : M D) >>= fun x787 => ((pure s642 : M D) >>= fun x785 => (pure []) >>= fun r786 => pure (x785 :: r786)) >>= fun r788 => pure (x787 :: r788)) >>= mk2 m__law_pick) >>= fun x791 => setC x790 x791 x789 >>= fun _ => (pure (.next ())))) ds796 () >>= fun f778 => thenL f778 fun s776 => ((((((pure p729.2 : M D) >>= frz) >>= asW) >>= fun ds => compM dec1 (fun p792 => pure true) (fun p792 => ((pure (.str []) : M D) >>= fun x793 => isS x793 >>= fun _ => (pure p792 : M D) >>= fun x794 => dJoin x793 x794)) ds >>= fLst) >>= dTuple) >>= fun d795 => pure (.ret d795)))))))
def m__law_drawn_model (v_source v_most v_hidden : D) : M D := mB__law_drawn_model v_source v_most v_hidden >>= retM
theorem c__law_drawn_model (fx : Fx P w K mg base) : CalD P w K mg base 3 "_law_drawn_model" 3 (mk3 m__law_drawn_model) := by
  have nd : (["source", "most", "hidden", "many", "thin", "rows", "at", "row_so", "turn", "place"] : List PySem.Str).Nodup := by decide
  obtain ⟨fd, F⟩ := fx.d__law_drawn_model
  refine (cal_of (N := ["source", "most", "hidden", "many", "thin", "rows", "at", "row_so", "turn", "place"]) (ps := ["source", "most", "hidden"]) (eN := eE) (k := 2) (mB := fun ds => match ds with | [v_source, v_most, v_hidden] => mB__law_drawn_model v_source v_most v_hidden | _ => M.stuck) F fx.g__law_drawn_model ⟨rfl, rfl, rfl, by decide, rfl, by decide, by decide⟩ (fun _ _ _ _ _ _ us hl => match us, hl with | [_, _, _], _ => rfl) (fun cdv A outer s H E ds hl hcd hr => ?_)).to ?_
  · match ds, hl with
    | [v_source, v_most, v_hidden], _ => exact (db_set 3 (de_op2 op_addA rd_add de_int (de_call (c__law_pick fx) hr (by first | decide | omega) rfl (passF (L2N.takes_of rfl rfl rfl rfl)) (da_cons (de_var 0 rfl rfl (visB rfl) rfl rfl) (da_cons (de_var 1 rfl rfl (visB rfl) rfl rfl) da_nil rfl) rfl) rfl rfl rfl rfl rfl (mk2_len _))) nd rfl (locB rfl) rfl (by first | exact .inl rfl | exact .inr rfl) (fun v_many_625 => (db_if (e' := fun (s642 : D) => [.val v_source, .val v_most, .val v_hidden, .val s642, .none, .none, .none, .none, .none, .none]) (DW.dt (dw_and (dt_cmp op_gt rd_gt (de_var 1 rfl rfl (visB rfl) rfl rfl) de_int rfl) (dw_and1 (dt_cmp op_gt rd_gt (de_call (c__law_pick fx) hr (by first | decide | omega) rfl (passF (L2N.takes_of rfl rfl rfl rfl)) (da_cons (de_var 0 rfl rfl (visB rfl) rfl rfl) (da_cons de_int da_nil rfl) rfl) rfl rfl rfl rfl rfl (mk2_len _)) de_int rfl)))) (db_set 3 (de_b2 (call_max2 rfl) rc_max2 rfl fx.b_max rfl (de_var 3 rfl rfl (visB rfl) rfl rfl) de_int (by decide) rfl rfl rfl) nd rfl (locB rfl) rfl (by first | exact .inl rfl | exact .inr rfl) (fun v_many_643 => (db_nil (s := v_many_643) (.k (.k (.k (.k (.k (.k (.k (.k (.k (.k .nil))))))))))))) (db_nil (s := v_many_625) (.k (.k (.k (.k (.k (.k (.k (.k (.k (.k .nil))))))))))) (fun s642 => (db_asg (de_tup (da_cons (de_call (c__law_chosen fx) hr (by first | decide | omega) rfl (passF (L2N.takes_of rfl rfl rfl rfl)) (da_cons (de_var 0 rfl rfl (visB rfl) rfl rfl) (da_cons (de_lstF fLst_ok (da_cons (de_str rfl rfl) (da_cons (de_str rfl rfl) (da_cons (de_str rfl rfl) (da_cons (de_str rfl rfl) (da_cons (de_str rfl rfl) da_nil rfl) rfl) rfl) rfl) rfl)) da_nil rfl) rfl) rfl rfl rfl rfl rfl (mk2_len _)) (da_cons (de_lstF newC_ok da_nil) da_nil rfl) rfl)) (g_tup2 4 5) (pg_tup rfl (pgs_cons (pg_name nd rfl (locB rfl)) (pgs_cons (pg_name nd rfl (locB rfl)) pgs_nil))) rfl rfl rfl (fun p729 => (db_for (es := fun (s731 : Unit) => [.val v_source, .val v_most, .val v_hidden, .val s642, .val p729.1, .val p729.2, .none, .none, .none, .none]) () (.k (.k (.k (.k (.k (.k (.k (.k (.k (.k .nil)))))))))) (passes_of rfl) rfl (g_name 6) (di_range1 rfl fx.b_range (de_var 3 rfl rfl (visB rfl) rfl rfl) rfl) (pg_name nd rfl (locB rfl)) (fun _ => rfl) (fun s731 p732 => (db_setLc (own := [("place", 9)]) 7 newC_ok rfl nd rfl rfl (by rfl) (g_name 9) (by decide) (di_range1 rfl fx.b_range (de_var 3 rfl rfl (visB rfl) rfl rfl) rfl) (blkOk_by rfl) (fun _ _ _ _ _ => (pg_name nd rfl (locB rfl))) (fun _ _ _ _ _ p763 => dts_nil) (fun _ _ _ _ _ p763 => (de_ix (de_var 4 rfl rfl (visB rfl) rfl rfl) (de_call (c__law_pick fx) hr (by first | decide | omega) rfl passB (da_cons (de_var 0 rfl rfl (visB rfl) rfl rfl) (da_cons (de_b1 cr_lenA rc_len rfl fx.b_len rfl (de_var 4 rfl rfl (visB rfl) rfl rfl) (by decide) rfl rfl) da_nil rfl) rfl) rfl rfl rfl rfl rfl (mk2_len _)) (fun _ _ => rfl))) (fun _ => rfl) (fun v_row_so_734 => (db_setIx (de_call (c__law_chosen fx) hr (by first | decide | omega) rfl (passF (L2N.takes_of rfl rfl rfl rfl)) (da_cons (de_var 0 rfl rfl (visB rfl) rfl rfl) (da_cons (de_lstF fLst_ok (da_cons (de_str rfl rfl) (da_cons (de_str rfl rfl) (da_cons (de_str rfl rfl) (da_cons (de_str rfl rfl) (da_cons (de_ix (de_var 7 rfl rfl (visB rfl) rfl rfl) (de_var 6 rfl rfl (visB rfl) rfl rfl) (fun _ _ => rfl)) da_nil rfl) rfl) rfl) rfl) rfl)) da_nil rfl) rfl) rfl rfl rfl rfl rfl (mk2_len _)) (de_var 7 rfl rfl (visB rfl) rfl rfl) (de_var 6 rfl rfl (visB rfl) rfl rfl) rfl rfl rfl (fun _ => rfl) (db_expr (de_append (de_var 5 rfl rfl (visB rfl) rfl rfl) (de_var 7 rfl rfl (visB rfl) rfl rfl) rfl rfl rfl rfl) rfl (db_nil (s := ()) (.k (.k (.k (.k (.k (.k (.n (.n (.k (.k .nil)))))))))))))))) (fun s731 => (db_for (es := fun (s776 : Unit) => [.val v_source, .val v_most, .val v_hidden, .val s642, .val p729.1, .val p729.2, .none, .none, .none, .none]) () (.k (.k (.k (.k (.k (.k (.k (.k (.k (.k .nil)))))))))) (passes_of rfl) rfl (g_name 8) (di_range1 rfl fx.b_range (de_call (c__law_pick fx) hr (by first | decide | omega) rfl (passF (L2N.takes_of rfl rfl rfl rfl)) (da_cons (de_var 0 rfl rfl (visB rfl) rfl rfl) (da_cons (de_op2 op_addA rd_add (de_var 2 rfl rfl (visB rfl) rfl rfl) de_int) da_nil rfl) rfl) rfl rfl rfl rfl rfl (mk2_len _)) rfl) (pg_name nd rfl (locB rfl)) (fun _ => rfl) (fun s776 p777 => (db_setIx (de_str rfl rfl) (de_ix (de_var 5 rfl rfl (visB rfl) rfl rfl) (de_call (c__law_pick fx) hr (by first | decide | omega) rfl (passF (L2N.takes_of rfl rfl rfl rfl)) (da_cons (de_var 0 rfl rfl (visB rfl) rfl rfl) (da_cons (de_var 3 rfl rfl (visB rfl) rfl rfl) da_nil rfl) rfl) rfl rfl rfl rfl rfl (mk2_len _)) (fun _ _ => rfl)) (de_call (c__law_pick fx) hr (by first | decide | omega) rfl (passF (L2N.takes_of rfl rfl rfl rfl)) (da_cons (de_var 0 rfl rfl (visB rfl) rfl rfl) (da_cons (de_var 3 rfl rfl (visB rfl) rfl rfl) da_nil rfl) rfl) rfl rfl rfl rfl rfl (mk2_len _)) rfl rfl rfl (fun _ => rfl) (db_nil (s := ()) (.k (.k (.k (.k (.k (.k (.k (.k (.n (.k .nil))))))))))))) (fun s776 => (db_ret (de_ty1 call_tuple_of rc_tuple rfl fx.b_tuple rfl (de_lcF (own := [("row_so", 7)]) fLst_ok rfl nd (g_name 7) (by decide) (di_any (de_frz (de_var 5 rfl rfl (visB rfl) rfl rfl))) (blkOk_by rfl) (fun _ _ _ _ _ => (pg_name nd rfl (locB rfl))) (fun _ _ _ _ _ p792 => dts_nil) (fun _ _ _ _ _ p792 => (de_join (de_str rfl rfl) (de_var 7 rfl rfl (visB rfl) rfl rfl) rfl rfl rfl)) (fun _ => rfl)) (by decide) rfl rfl))))))))))))
  · intro ds hl
    match ds, hl with
    | [_, _, _], _ => rfl
def mB__law_filled (v_model_so : D) : M (Fl Empty Empty) :=
  ((((pure (.str []) : M D) >>= fun x803 => (pure []) >>= fun r804 => pure (x803 :: r804)) >>= fLst) >>= fun v_found_802 => ((((pure (.str [10]) : M D) >>= fun x805 => isS x805 >>= fun _ => ((pure v_model_so : M D) >>= (dList fLst)) >>= fun x806 => dJoin x805 x806) >>= asW) >>= fun ds829 => loopM dec1 (fun (s807 : D) p808 => (((pure []) >>= fLst) >>= fun v_later_so_810 => (((pure s807 : M D) >>= asW) >>= fun ds824 => loopM dec1 (fun (s811 : D) p812 => (((pure s811 : M D) >>= fun x821 => (((((pure p808 : M D) >>= fun x815 => (pure (.str [63]) : M D) >>= fun x816 => dEq x815 x816 >>= asB) >>= fun t817 => if t817 = true then (pure (.str [43, 45, 48]) : M D) else (pure p808 : M D)) >>= asW) >>= fun ds => compM dec1 (fun p818 => pure true) (fun p818 => ((pure p812 : M D) >>= fun x819 => (pure p818 : M D) >>= fun x820 => dAdd x819 x820)) ds >>= fLst) >>= fun x822 => dAdd x821 x822) >>= fun v_later_so_814 => (pure (.next v_later_so_814)))) ds824 v_later_so_810 >>= fun f813 => thenL f813 fun s811 => ((pure s811 : M D) >>= fun v_found_823 => (pure (.next v_found_823)))))) ds829 v_found_802 >>= fun f809 => thenL f809 fun s807 => (((((pure s807 : M D) >>= asW) >>= fun ds => compM dec1 (fun p825 => pure true) (fun p825 => (((pure p825 : M D) >>= fun x826 => isS x826 >>= fun _ => (pure (.str [10]) : M D) >>= fun x827 => dSplit fLst x826 x827) >>= dTuple)) ds >>= fLst) >>= (dSorted fLst)) >>= fun d828 => pure (.ret d828))))
def m__law_filled (v_model_so : D) : M D := mB__law_filled v_model_so >>= retM
theorem c__law_filled (fx : Fx P w K mg base) : CalD P w K mg base 1 "_law_filled" 1 (mk1 m__law_filled) := by
  have nd : (["model_so", "found", "sign", "later_so", "text", "each"] : List PySem.Str).Nodup := by decide
  obtain ⟨fd, F⟩ := fx.d__law_filled
  refine (cal_of (N := ["model_so", "found", "sign", "later_so", "text", "each"]) (ps := ["model_so"]) (eN := eE) (k := 0) (mB := fun ds => match ds with | [v_model_so] => mB__law_filled v_model_so | _ => M.stuck) F fx.g__law_filled ⟨rfl, rfl, rfl, by decide, rfl, by decide, by decide⟩ (fun _ _ _ _ _ _ us hl => match us, hl with | [_], _ => rfl) (fun cdv A outer s H E ds hl hcd hr => ?_)).to ?_
  · match ds, hl with
    | [v_model_so], _ => exact (db_set 1 (de_lstF fLst_ok (da_cons (de_str rfl rfl) da_nil rfl)) nd rfl (locB rfl) rfl (by first | exact .inl rfl | exact .inr rfl) (fun v_found_802 => (db_for (es := fun (s807 : D) => [.val v_model_so, .val s807, .none, .none, .none, .none]) v_found_802 (.k (.k (.k (.k (.k (.k .nil)))))) (passes_of rfl) rfl (g_name 2) (di_any (de_join (de_str rfl rfl) (de_ty1 call_list_of (rc_list fLst_ok) rfl fx.b_list rfl (de_var 0 rfl rfl (visB rfl) rfl rfl) (by decide) rfl rfl) rfl rfl rfl)) (pg_name nd rfl (locB rfl)) (fun _ => rfl) (fun s807 p808 => (db_set 3 (de_lstF fLst_ok da_nil) nd rfl (locB rfl) rfl (by first | exact .inl rfl | exact .inr rfl) (fun v_later_so_810 => (db_for (es := fun (s811 : D) => [.val v_model_so, .val s807, .val p808, .val s811, .none, .none]) v_later_so_810 (.k (.k (.k (.k (.k (.k .nil)))))) (passes_of rfl) rfl (g_name 4) (di_any (de_var 1 rfl rfl (visB rfl) rfl rfl)) (pg_name nd rfl (locB rfl)) (fun _ => rfl) (fun s811 p812 => (db_set 3 (de_op2 op_addA rd_add (de_var 3 rfl rfl (visB rfl) rfl rfl) (de_lcF (own := [("each", 5)]) fLst_ok rfl nd (g_name 5) (by decide) (di_any (de_ifExp (dt_cmp (op_eqD (hu64 hr)) rd_eq (de_var 2 rfl rfl (visB rfl) rfl rfl) (de_str rfl rfl) rfl) (de_str rfl rfl) (de_var 2 rfl rfl (visB rfl) rfl rfl))) (blkOk_by rfl) (fun _ _ _ _ _ => (pg_name nd rfl (locB rfl))) (fun _ _ _ _ _ p818 => dts_nil) (fun _ _ _ _ _ p818 => (de_op2 op_addA rd_add (de_var 4 rfl rfl (visB rfl) rfl rfl) (de_var 5 rfl rfl (visB rfl) rfl rfl))) (fun _ => rfl))) nd rfl (locB rfl) rfl (by first | exact .inl rfl | exact .inr rfl) (fun v_later_so_814 => (db_nil (s := v_later_so_814) (.k (.k (.k (.k (.n (.k .nil)))))))))) (fun s811 => (db_set 1 (de_var 3 rfl rfl (visB rfl) rfl rfl) nd rfl (locB rfl) rfl (by first | exact .inl rfl | exact .inr rfl) (fun v_found_823 => (db_nil (s := v_found_823) (.k (.k (.n (.n (.k (.k .nil)))))))))))))) (fun s807 => (db_ret (de_b1 cr_sortedD (rc_sorted fLst_ok (hu65 hr)) rfl fx.b_sorted rfl (de_lcF (own := [("text", 4)]) fLst_ok rfl nd (g_name 4) (by decide) (di_any (de_var 1 rfl rfl (visB rfl) rfl rfl)) (blkOk_by rfl) (fun _ _ _ _ _ => (pg_name nd rfl (locB rfl))) (fun _ _ _ _ _ p825 => dts_nil) (fun _ _ _ _ _ p825 => (de_ty1 call_tuple_of rc_tuple rfl fx.b_tuple rfl (de_split fLst_ok (de_var 4 rfl rfl (visB rfl) rfl rfl) (de_str rfl rfl) rfl rfl rfl) (by decide) rfl rfl)) (fun _ => rfl)) (by decide) rfl rfl))))))
  · intro ds hl
    match ds, hl with
    | [_], _ => rfl
def mB__law_good_model (v_value : D) : M (Fl Empty Empty) :=
  ((bOr ((((pure v_value : M D) >>= mIsi .tuple) >>= asB) >>= fun b830 => pure (!b830)) (((chM dLe dLe (pure (.int 1) : M D) ((pure v_value : M D) >>= dLen) (pure (.int 4) : M D)) >>= asB) >>= fun b831 => pure (!b831))) >>= fun t832 => if t832 = true then ((pure (.bl false) : M D) >>= fun d834 => pure (.ret d834)) >>= fun f833 => thenM f833 Empty.elim else ((pure (.int 0) : M D) >>= fun v_hidden_835 => (((pure v_value : M D) >>= asW) >>= fun ds869 => loopM dec1 (fun (s836 : D) p837 => ((bOr ((((pure p837 : M D) >>= mIsi .str) >>= asB) >>= fun b839 => pure (!b839)) (((pure p837 : M D) >>= dLen) >>= fun x840 => ((pure v_value : M D) >>= dLen) >>= fun x841 => dNe x840 x841 >>= asB)) >>= fun t842 => if t842 = true then ((pure (.bl false) : M D) >>= fun d844 => pure (.ret d844)) >>= fun f843 => thenM f843 Empty.elim else (((((pure p837 : M D) >>= asW) >>= fun ds => compM dec1 (fun p845 => ((pure p845 : M D) >>= fun x854 => (((pure (.str [43]) : M D) >>= fun x852 => ((pure (.str [45]) : M D) >>= fun x850 => ((pure (.str [48]) : M D) >>= fun x848 => ((pure (.str [63]) : M D) >>= fun x846 => (pure []) >>= fun r847 => pure (x846 :: r847)) >>= fun r849 => pure (x848 :: r849)) >>= fun r851 => pure (x850 :: r851)) >>= fun r853 => pure (x852 :: r853)) >>= fLst) >>= fun x855 => dNotIn x854 x855 >>= asB)) (fun p845 => (pure (.int 1) : M D)) ds >>= fLst) >>= fun x856 => ((pure []) >>= fLst) >>= fun x857 => dNe x856 x857 >>= asB) >>= fun t858 => if t858 = true then ((pure (.bl false) : M D) >>= fun d860 => pure (.ret d860)) >>= fun f859 => thenM f859 Empty.elim else (((pure s836 : M D) >>= fun x864 => ((pure p837 : M D) >>= fun x862 => isS x862 >>= fun _ => (pure (.str [63]) : M D) >>= fun x863 => dCount x862 x863) >>= fun x865 => dAdd x864 x865) >>= fun v_hidden_861 => (pure (.next v_hidden_861)))))) ds869 v_hidden_835 >>= fun f838 => thenL f838 fun s836 => (((pure s836 : M D) >>= fun x866 => (pure (.int 5) : M D) >>= fun x867 => dLt x866 x867) >>= fun d868 => pure (.ret d868)))))
def m__law_good_model (v_value : D) : M D := mB__law_good_model v_value >>= retM
theorem c__law_good_model (fx : Fx P w K mg base) : CalD P w K mg base 1 "_law_good_model" 1 (mk1 m__law_good_model) := by
  have nd : (["value", "hidden", "row_so", "sign"] : List PySem.Str).Nodup := by decide
  obtain ⟨fd, F⟩ := fx.d__law_good_model
  refine (cal_of (N := ["value", "hidden", "row_so", "sign"]) (ps := ["value"]) (eN := eE) (k := 0) (mB := fun ds => match ds with | [v_value] => mB__law_good_model v_value | _ => M.stuck) F fx.g__law_good_model ⟨rfl, rfl, rfl, by decide, rfl, by decide, by decide⟩ (fun _ _ _ _ _ _ us hl => match us, hl with | [_], _ => rfl) (fun cdv A outer s H E ds hl hcd hr => ?_)).to ?_
  · match ds, hl with
    | [v_value], _ => exact (db_if1 (DW.dt (dw_or (dt_not (dt_val (de_isi (T := .tuple) rfl fx.b_isinstance rfl fx.b_tuple rfl (by decide) rfl (de_var 0 rfl rfl (visB rfl) rfl rfl) rfl rfl) (fun _ => rfl))) (dw_or1 (dt_not (dt_chain op_le op_le rd_le rd_le de_int (de_b1 cr_lenA rc_len rfl fx.b_len rfl (de_var 0 rfl rfl (visB rfl) rfl rfl) (by decide) rfl rfl) de_int rfl))))) (db_ret de_bl) (db_set 1 de_int nd rfl (locB rfl) rfl (by first | exact .inl rfl | exact .inr rfl) (fun v_hidden_835 => (db_for (es := fun (s836 : D) => [.val v_value, .val s836, .none, .none]) v_hidden_835 (.k (.k (.k (.k .nil)))) (passes_of rfl) rfl (g_name 2) (di_any (de_var 0 rfl rfl (visB rfl) rfl rfl)) (pg_name nd rfl (locB rfl)) (fun _ => rfl) (fun s836 p837 => (db_if1 (DW.dt (dw_or (dt_not (dt_val (de_isi (T := .str) rfl fx.b_isinstance rfl fx.b_str rfl (by decide) rfl (de_var 2 rfl rfl (visB rfl) rfl rfl) rfl rfl) (fun _ => rfl))) (dw_or1 (dt_cmp (op_neD (hu64 hr)) rd_ne (de_b1 cr_lenA rc_len rfl fx.b_len rfl (de_var 2 rfl rfl (visB rfl) rfl rfl) (by decide) rfl rfl) (de_b1 cr_lenA rc_len rfl fx.b_len rfl (de_var 0 rfl rfl (visB rfl) rfl rfl) (by decide) rfl rfl) rfl)))) (db_ret de_bl) (db_if1 (dt_cmp (op_neD (hu64 hr)) rd_ne (de_lcF (own := [("sign", 3)]) fLst_ok rfl nd (g_name 3) (by decide) (di_any (de_var 2 rfl rfl (visB rfl) rfl rfl)) (blkOk_by rfl) (fun _ _ _ _ _ => (pg_name nd rfl (locB rfl))) (fun _ _ _ _ _ p845 => dts_one (dt_cmp (op_notInA (hu65 hr)) rd_notIn (de_var 3 rfl rfl (visB rfl) rfl rfl) (de_lstF fLst_ok (da_cons (de_str rfl rfl) (da_cons (de_str rfl rfl) (da_cons (de_str rfl rfl) (da_cons (de_str rfl rfl) da_nil rfl) rfl) rfl) rfl)) rfl)) (fun _ _ _ _ _ p845 => de_int) (fun _ => rfl)) (de_lstF fLst_ok da_nil) rfl) (db_ret de_bl) (db_set 1 (de_op2 op_addA rd_add (de_var 1 rfl rfl (visB rfl) rfl rfl) (de_count (de_var 2 rfl rfl (visB rfl) rfl rfl) (de_str rfl rfl) rfl rfl rfl)) nd rfl (locB rfl) rfl (by first | exact .inl rfl | exact .inr rfl) (fun v_hidden_861 => (db_nil (s := v_hidden_861) (.k (.k (.n (.k .nil)))))))))) (fun s836 => (db_ret (de_cmp op_lt rd_lt (de_var 1 rfl rfl (visB rfl) rfl rfl) de_int rfl)))))))
  · intro ds hl
    match ds, hl with
    | [_], _ => rfl
def mB__law_good_sizes (v_model_so v_value : D) : M (Fl Empty Empty) :=
  ((bOr ((((pure v_value : M D) >>= mIsi .tuple) >>= asB) >>= fun b870 => pure (!b870)) (((pure v_value : M D) >>= dLen) >>= fun x871 => ((pure v_model_so : M D) >>= dLen) >>= fun x872 => dNe x871 x872 >>= asB)) >>= fun t873 => if t873 = true then ((pure (.bl false) : M D) >>= fun d875 => pure (.ret d875)) >>= fun f874 => thenM f874 Empty.elim else (((pure v_value : M D) >>= asW) >>= fun ds901 => loopM dec1 (fun (s876 : Unit) p877 => ((bOr ((((pure p877 : M D) >>= mIsi .tuple) >>= asB) >>= fun b879 => pure (!b879)) (((pure p877 : M D) >>= dLen) >>= fun x880 => ((pure v_model_so : M D) >>= dLen) >>= fun x881 => dNe x880 x881 >>= asB)) >>= fun t882 => if t882 = true then ((pure (.bl false) : M D) >>= fun d884 => pure (.ret d884)) >>= fun f883 => thenM f883 Empty.elim else (((((pure p877 : M D) >>= asW) >>= fun ds => compM dec1 (fun p885 => (((((pure p885 : M D) >>= fun x892 => ((pure (.int 1) : M D) >>= fun x890 => (((pure (.int 10) : M D) >>= fun x886 => (pure (.int 30) : M D) >>= fun x887 => dPow x886 x887) >>= fun x888 => (pure []) >>= fun r889 => pure (x888 :: r889)) >>= fun r891 => pure (x890 :: r891)) >>= fun r893 => pure (x892 :: r893)) >>= mk3 m__law_whole) >>= asB) >>= fun b894 => pure (!b894))) (fun p885 => (pure (.int 1) : M D)) ds >>= fLst) >>= fun x895 => ((pure []) >>= fLst) >>= fun x896 => dNe x895 x896 >>= asB) >>= fun t897 => if t897 = true then ((pure (.bl false) : M D) >>= fun d899 => pure (.ret d899)) >>= fun f898 => thenM f898 Empty.elim else (pure (.next ()))))) ds901 () >>= fun f878 => thenL f878 fun s876 => ((pure (.bl true) : M D) >>= fun d900 => pure (.ret d900))))
def m__law_good_sizes (v_model_so v_value : D) : M D := mB__law_good_sizes v_model_so v_value >>= retM
theorem c__law_good_sizes (fx : Fx P w K mg base) : CalD P w K mg base 2 "_law_good_sizes" 2 (mk2 m__law_good_sizes) := by
  have nd : (["model_so", "value", "row_so", "part"] : List PySem.Str).Nodup := by decide
  obtain ⟨fd, F⟩ := fx.d__law_good_sizes
  refine (cal_of (N := ["model_so", "value", "row_so", "part"]) (ps := ["model_so", "value"]) (eN := eE) (k := 1) (mB := fun ds => match ds with | [v_model_so, v_value] => mB__law_good_sizes v_model_so v_value | _ => M.stuck) F fx.g__law_good_sizes ⟨rfl, rfl, rfl, by decide, rfl, by decide, by decide⟩ (fun _ _ _ _ _ _ us hl => match us, hl with | [_, _], _ => rfl) (fun cdv A outer s H E ds hl hcd hr => ?_)).to ?_
  · match ds, hl with
    | [v_model_so, v_value], _ => exact (db_if1 (DW.dt (dw_or (dt_not (dt_val (de_isi (T := .tuple) rfl fx.b_isinstance rfl fx.b_tuple rfl (by decide) rfl (de_var 1 rfl rfl (visB rfl) rfl rfl) rfl rfl) (fun _ => rfl))) (dw_or1 (dt_cmp (op_neD (hu64 hr)) rd_ne (de_b1 cr_lenA rc_len rfl fx.b_len rfl (de_var 1 rfl rfl (visB rfl) rfl rfl) (by decide) rfl rfl) (de_b1 cr_lenA rc_len rfl fx.b_len rfl (de_var 0 rfl rfl (visB rfl) rfl rfl) (by decide) rfl rfl) rfl)))) (db_ret de_bl) (db_for (es := fun (s876 : Unit) => [.val v_model_so, .val v_value, .none, .none]) () (.k (.k (.k (.k .nil)))) (passes_of rfl) rfl (g_name 2) (di_any (de_var 1 rfl rfl (visB rfl) rfl rfl)) (pg_name nd rfl (locB rfl)) (fun _ => rfl) (fun s876 p877 => (db_if1 (DW.dt (dw_or (dt_not (dt_val (de_isi (T := .tuple) rfl fx.b_isinstance rfl fx.b_tuple rfl (by decide) rfl (de_var 2 rfl rfl (visB rfl) rfl rfl) rfl rfl) (fun _ => rfl))) (dw_or1 (dt_cmp (op_neD (hu64 hr)) rd_ne (de_b1 cr_lenA rc_len rfl fx.b_len rfl (de_var 2 rfl rfl (visB rfl) rfl rfl) (by decide) rfl rfl) (de_b1 cr_lenA rc_len rfl fx.b_len rfl (de_var 0 rfl rfl (visB rfl) rfl rfl) (by decide) rfl rfl) rfl)))) (db_ret de_bl) (db_if1 (dt_cmp (op_neD (hu64 hr)) rd_ne (de_lcF (own := [("part", 3)]) fLst_ok rfl nd (g_name 3) (by decide) (di_any (de_var 2 rfl rfl (visB rfl) rfl rfl)) (blkOk_by rfl) (fun _ _ _ _ _ => (pg_name nd rfl (locB rfl))) (fun _ _ _ _ _ p885 => dts_one (dt_not (dt_val (de_call (c__law_whole fx) hr (by first | decide | omega) rfl passB (da_cons (de_var 3 rfl rfl (visB rfl) rfl rfl) (da_cons de_int (da_cons (de_op2 op_pow rd_pow de_int de_int) da_nil rfl) rfl) rfl) rfl rfl rfl rfl rfl (mk3_len _)) (fun _ => rfl)))) (fun _ _ _ _ _ p885 => de_int) (fun _ => rfl)) (de_lstF fLst_ok da_nil) rfl) (db_ret de_bl) (db_nil (s := ()) (.k (.k (.n (.k .nil)))))))) (fun s876 => (db_ret de_bl))))
  · intro ds hl
    match ds, hl with
    | [_, _], _ => rfl
def mB__law_hidden (v_model_so : D) : M (Fl Empty Empty) :=
  (((pure []) >>= fLst) >>= fun v_found_902 => (((pure v_model_so : M D) >>= enW) >>= fun ds919 => loopM dec2 (fun (s903 : D) p904 => (((pure s903 : M D) >>= fun x916 => ((((pure p904.2 : M D) >>= dLen) >>= rng1) >>= fun ds => compM dec1 (fun p907 => (((pure p904.2 : M D) >>= fun x908 => (pure p907 : M D) >>= fun x909 => dIndex x908 x909) >>= fun x910 => (pure (.str [63]) : M D) >>= fun x911 => dEq x910 x911 >>= asB)) (fun p907 => (((pure p904.1 : M D) >>= fun x914 => ((pure p907 : M D) >>= fun x912 => (pure []) >>= fun r913 => pure (x912 :: r913)) >>= fun r915 => pure (x914 :: r915)) >>= mkTup)) ds >>= fLst) >>= fun x917 => dAdd x916 x917) >>= fun v_found_906 => (pure (.next v_found_906)))) ds919 v_found_902 >>= fun f905 => thenL f905 fun s903 => ((pure s903 : M D) >>= fun d918 => pure (.ret d918))))
def m__law_hidden (v_model_so : D) : M D := mB__law_hidden v_model_so >>= retM
theorem c__law_hidden (fx : Fx P w K mg base) : CalD P w K mg base 1 "_law_hidden" 1 (mk1 m__law_hidden) := by
  have nd : (["model_so", "found", "at", "row_so", "place"] : List PySem.Str).Nodup := by decide
  obtain ⟨fd, F⟩ := fx.d__law_hidden
  refine (cal_of (N := ["model_so", "found", "at", "row_so", "place"]) (ps := ["model_so"]) (eN := eE) (k := 0) (mB := fun ds => match ds with | [v_model_so] => mB__law_hidden v_model_so | _ => M.stuck) F fx.g__law_hidden ⟨rfl, rfl, rfl, by decide, rfl, by decide, by decide⟩ (fun _ _ _ _ _ _ us hl => match us, hl with | [_], _ => rfl) (fun cdv A outer s H E ds hl hcd hr => ?_)).to ?_
  · match ds, hl with
    | [v_model_so], _ => exact (db_set 1 (de_lstF fLst_ok da_nil) nd rfl (locB rfl) rfl (by first | exact .inl rfl | exact .inr rfl) (fun v_found_902 => (db_for (es := fun (s903 : D) => [.val v_model_so, .val s903, .none, .none, .none]) v_found_902 (.k (.k (.k (.k (.k .nil))))) (passes_of rfl) rfl (g_tup2 2 3) (di_en rfl fx.b_enumerate (de_var 0 rfl rfl (visB rfl) rfl rfl) rfl) (pg_tup rfl (pgs_cons (pg_name nd rfl (locB rfl)) (pgs_cons (pg_name nd rfl (locB rfl)) pgs_nil))) (fun _ => rfl) (fun s903 p904 => (db_set 1 (de_op2 op_addA rd_add (de_var 1 rfl rfl (visB rfl) rfl rfl) (de_lcF (own := [("place", 4)]) fLst_ok rfl nd (g_name 4) (by decide) (di_range1 rfl fx.b_range (de_b1 cr_lenA rc_len rfl fx.b_len rfl (de_var 3 rfl rfl (visB rfl) rfl rfl) (by decide) rfl rfl) rfl) (blkOk_by rfl) (fun _ _ _ _ _ => (pg_name nd rfl (locB rfl))) (fun _ _ _ _ _ p907 => dts_one (dt_cmp (op_eqD (hu64 hr)) rd_eq (de_ix (de_var 3 rfl rfl (visB rfl) rfl rfl) (de_var 4 rfl rfl (visB rfl) rfl rfl) (fun _ _ => rfl)) (de_str rfl rfl) rfl)) (fun _ _ _ _ _ p907 => (de_tup (da_cons (de_var 2 rfl rfl (visB rfl) rfl rfl) (da_cons (de_var 4 rfl rfl (visB rfl) rfl rfl) da_nil rfl) rfl))) (fun _ => rfl))) nd rfl (locB rfl) rfl (by first | exact .inl rfl | exact .inr rfl) (fun v_found_906 => (db_nil (s := v_found_906) (.k (.k (.n (.n (.k .nil))))))))) (fun s903 => (db_ret (de_var 1 rfl rfl (visB rfl) rfl rfl))))))
  · intro ds hl
    match ds, hl with
    | [_], _ => rfl
def mB__law_drawn_sizes (v_source v_many : D) : M (Fl Empty Empty) :=
  ((((pure (.int 1) : M D) >>= fun x945 => ((pure (.int 2) : M D) >>= fun x943 => ((pure (.int 5) : M D) >>= fun x941 => (((pure (.int 1) : M D) >>= fun x925 => (((pure v_source : M D) >>= fun x923 => ((pure (.int 99) : M D) >>= fun x921 => (pure []) >>= fun r922 => pure (x921 :: r922)) >>= fun r924 => pure (x923 :: r924)) >>= mk2 m__law_pick) >>= fun x926 => dAdd x925 x926) >>= fun x939 => ((((pure (.int 10) : M D) >>= fun x927 => (pure (.int 30) : M D) >>= fun x928 => dPow x927 x928) >>= fun x935 => (((pure v_source : M D) >>= fun x933 => (((pure (.int 10) : M D) >>= fun x929 => (pure (.int 9) : M D) >>= fun x930 => dPow x929 x930) >>= fun x931 => (pure []) >>= fun r932 => pure (x931 :: r932)) >>= fun r934 => pure (x933 :: r934)) >>= mk2 m__law_pick) >>= fun x936 => dSub x935 x936) >>= fun x937 => (pure []) >>= fun r938 => pure (x937 :: r938)) >>= fun r940 => pure (x939 :: r940)) >>= fun r942 => pure (x941 :: r942)) >>= fun r944 => pure (x943 :: r944)) >>= fun r946 => pure (x945 :: r946)) >>= fLst) >>= fun v_some_920 => (((((pure v_many : M D) >>= rng1) >>= fun ds => compM dec1 (fun p947 => pure true) (fun p947 => ((((pure v_many : M D) >>= rng1) >>= fun ds => compM dec1 (fun p948 => pure true) (fun p948 => (((pure v_source : M D) >>= fun x951 => ((pure v_some_920 : M D) >>= fun x949 => (pure []) >>= fun r950 => pure (x949 :: r950)) >>= fun r952 => pure (x951 :: r952)) >>= mk2 m__law_chosen)) ds >>= fLst) >>= dTuple)) ds >>= fLst) >>= dTuple) >>= fun d953 => pure (.ret d953)))
def m__law_drawn_sizes (v_source v_many : D) : M D := mB__law_drawn_sizes v_source v_many >>= retM
theorem c__law_drawn_sizes (fx : Fx P w K mg base) : CalD P w K mg base 3 "_law_drawn_sizes" 2 (mk2 m__law_drawn_sizes) := by
  have nd : (["source", "many", "some", "at", "place"] : List PySem.Str).Nodup := by decide
  obtain ⟨fd, F⟩ := fx.d__law_drawn_sizes
  refine (cal_of (N := ["source", "many", "some", "at", "place"]) (ps := ["source", "many"]) (eN := eE) (k := 2) (mB := fun ds => match ds with | [v_source, v_many] => mB__law_drawn_sizes v_source v_many | _ => M.stuck) F fx.g__law_drawn_sizes ⟨rfl, rfl, rfl, by decide, rfl, by decide, by decide⟩ (fun _ _ _ _ _ _ us hl => match us, hl with | [_, _], _ => rfl) (fun cdv A outer s H E ds hl hcd hr => ?_)).to ?_
  · match ds, hl with
    | [v_source, v_many], _ => exact (db_set 2 (de_lstF fLst_ok (da_cons de_int (da_cons de_int (da_cons de_int (da_cons (de_op2 op_addA rd_add de_int (de_call (c__law_pick fx) hr (by first | decide | omega) rfl (passF (L2N.takes_of rfl rfl rfl rfl)) (da_cons (de_var 0 rfl rfl (visB rfl) rfl rfl) (da_cons de_int da_nil rfl) rfl) rfl rfl rfl rfl rfl (mk2_len _))) (da_cons (de_op2 op_sub rd_sub (de_op2 op_pow rd_pow de_int de_int) (de_call (c__law_pick fx) hr (by first | decide | omega) rfl (passF (L2N.takes_of rfl rfl rfl rfl)) (da_cons (de_var 0 rfl rfl (visB rfl) rfl rfl) (da_cons (de_op2 op_pow rd_pow de_int de_int) da_nil rfl) rfl) rfl rfl rfl rfl rfl (mk2_len _))) da_nil rfl) rfl) rfl) rfl) rfl)) nd rfl (locB rfl) rfl (by first | exact .inl rfl | exact .inr rfl) (fun v_some_920 => (db_ret (de_ty1 call_tuple_of rc_tuple rfl fx.b_tuple rfl (de_lcF (own := [("at", 3)]) fLst_ok rfl nd (g_name 3) (by decide) (di_range1 rfl fx.b_range (de_var 1 rfl rfl (visB rfl) rfl rfl) rfl) (blkOk_by rfl) (fun _ _ _ _ _ => (pg_name nd rfl (locB rfl))) (fun _ _ _ _ _ p947 => dts_nil) (fun _ _ _ _ _ p947 => (de_ty1 call_tuple_of rc_tuple rfl fx.b_tuple rfl (de_lcF (own := [("place", 4)]) fLst_ok rfl nd (g_name 4) (by decide) (di_range1 rfl fx.b_range (de_var 1 rfl rfl (visB rfl) rfl rfl) rfl) (blkOk_by rfl) (fun _ _ _ _ _ => (pg_name nd rfl (locB rfl))) (fun _ _ _ _ _ p948 => dts_nil) (fun _ _ _ _ _ p948 => (de_call (c__law_chosen fx) hr (by first | decide | omega) rfl passB (da_cons (de_var 0 rfl rfl (visB rfl) rfl rfl) (da_cons (de_var 2 rfl rfl (visB rfl) rfl rfl) da_nil rfl) rfl) rfl rfl rfl rfl rfl (mk2_len _))) (fun _ => rfl)) (by decide) rfl rfl)) (fun _ => rfl)) (by decide) rfl rfl))))
  · intro ds hl
    match ds, hl with
    | [_, _], _ => rfl
def mB_law (v_script : D) : M (Fl Empty Empty) :=
  ((((pure (.int 6) : M D) >>= fun x956 => ((pure (.int 20) : M D) >>= fun x954 => ((pure v_script : M D) >>= dLen) >>= fun x955 => dMin2 x954 x955) >>= fun x957 => dMax2 x956 x957) >>= rng1) >>= fun ds1284 => loopM dec1 (fun (s958 : Unit) p959 => ((((pure v_script : M D) >>= fun x964 => ((pure p959 : M D) >>= fun x962 => (pure []) >>= fun r963 => pure (x962 :: r963)) >>= fun r965 => pure (x964 :: r965)) >>= mk2 m__law_source) >>= fun v_source_961 => ((((pure v_source_961 : M D) >>= fun x971 => ((pure (.int 4) : M D) >>= fun x969 => ((pure (.int 4) : M D) >>= fun x967 => (pure []) >>= fun r968 => pure (x967 :: r968)) >>= fun r970 => pure (x969 :: r970)) >>= fun r972 => pure (x971 :: r972)) >>= mk3 m__law_drawn_model) >>= fun v_model_so_966 => ((((pure v_model_so_966 : M D) >>= fun x993 => (((pure v_model_so_966 : M D) >>= (dList fLst)) >>= fun x991 => (((pure v_model_so_966 : M D) >>= fun x974 => (pure none) >>= fun l975 => (((pure (.int 1) : M D) >>= dNeg) >>= asI) >>= fun u976 => dSlice x974 l975 u976) >>= fun x989 => (((pure v_model_so_966 : M D) >>= fun x979 => (((pure (.str [48]) : M D) >>= fun x977 => (pure []) >>= fun r978 => pure (x977 :: r978)) >>= mkTup) >>= fun x980 => dAdd x979 x980) >>= fun x987 => (((pure (.str []) : M D) >>= fun x981 => isS x981 >>= fun _ => (pure v_model_so_966 : M D) >>= fun x982 => dJoin x981 x982) >>= fun x985 => (((pure []) >>= mkTup) >>= fun x983 => (pure []) >>= fun r984 => pure (x983 :: r984)) >>= fun r986 => pure (x985 :: r986)) >>= fun r988 => pure (x987 :: r988)) >>= fun r990 => pure (x989 :: r990)) >>= fun r992 => pure (x991 :: r992)) >>= fun r994 => pure (x993 :: r994)) >>= fLst) >>= fun v_values_973 => (((pure v_values_973 : M D) >>= fun x1006 => (((((pure (.str []) : M D) >>= fun x996 => (pure []) >>= fun r997 => pure (x996 :: r997)) >>= mkTup) >>= fun x1004 => (((((pure (.str [63, 63, 63, 63]) : M D) >>= fun x998 => (pure []) >>= fun r999 => pure (x998 :: r999)) >>= mkTup) >>= fun x1000 => (pure (.int 4) : M D) >>= fun x1001 => dMul x1000 x1001) >>= fun x1002 => (pure []) >>= fun r1003 => pure (x1002 :: r1003)) >>= fun r1005 => pure (x1004 :: r1005)) >>= fLst) >>= fun x1007 => dAdd x1006 x1007) >>= fun v_values_995 => (((pure (.int 20) : M D) >>= rng1) >>= fun ds1172 => loopM dec1 (fun (s1008 : D) p1009 => ((((pure v_source_961 : M D) >>= fun x1016 => ((pure v_model_so_966 : M D) >>= fun x1014 => ((pure (.int 3) : M D) >>= fun x1012 => (pure []) >>= fun r1013 => pure (x1012 :: r1013)) >>= fun r1015 => pure (x1014 :: r1015)) >>= fun r1017 => pure (x1016 :: r1017)) >>= mk3 (m__law_variant 6)) >>= fun v_odd_1011 => (((pure s1008 : M D) >>= fun x1030 => (((pure v_odd_1011 : M D) >>= fun x1028 => (((((pure v_odd_1011 : M D) >>= mIsi .tuple) >>= asB) >>= fun t1025 => if t1025 = true then (((pure v_source_961 : M D) >>= fun x1023 => ((pure v_odd_1011 : M D) >>= fun x1021 => ((pure (.int 3) : M D) >>= fun x1019 => (pure []) >>= fun r1020 => pure (x1019 :: r1020)) >>= fun r1022 => pure (x1021 :: r1022)) >>= fun r1024 => pure (x1023 :: r1024)) >>= mk3 (m__law_variant 6)) else (pure v_odd_1011 : M D)) >>= fun x1026 => (pure []) >>= fun r1027 => pure (x1026 :: r1027)) >>= fun r1029 => pure (x1028 :: r1029)) >>= fLst) >>= fun x1031 => dAdd x1030 x1031) >>= fun v_values_1018 => (pure (.next v_values_1018))))) ds1172 v_values_995 >>= fun f1010 => thenL f1010 fun s1008 => ((((pure s1008 : M D) >>= fun x1038 => (((((pure v_source_961 : M D) >>= fun x1034 => ((pure (.int 3) : M D) >>= fun x1032 => (pure []) >>= fun r1033 => pure (x1032 :: r1033)) >>= fun r1035 => pure (x1034 :: r1035)) >>= mk2 (m__law_any_value 6)) >>= fun x1036 => (pure []) >>= fun r1037 => pure (x1036 :: r1037)) >>= fLst) >>= fun x1039 => dAdd x1038 x1039) >>= asW) >>= fun ds1171 => loopM dec1 (fun (s1040 : Unit) p1041 => ((((((((pure p1041 : M D) >>= fun x1043 => (pure []) >>= fun r1044 => pure (x1043 :: r1044)) >>= mk1 m_is_model) >>= fun x1049 => ((((pure p1041 : M D) >>= fun x1045 => (pure []) >>= fun r1046 => pure (x1045 :: r1046)) >>= mk1 m__law_good_model) >>= fun x1047 => (pure []) >>= fun r1048 => pure (x1047 :: r1048)) >>= fun r1050 => pure (x1049 :: r1050)) >>= mk2 m__law_is_bool) >>= asB) >>= fun b1051 => pure (!b1051)) >>= fun t1052 => if t1052 = true then ((pure (.bl false) : M D) >>= fun d1054 => pure (.ret d1054)) >>= fun f1053 => thenM f1053 Empty.elim else ((((((pure (.fn "fillings") : M D) >>= fun x1058 => ((pure p1041 : M D) >>= fun x1056 => (pure []) >>= fun r1057 => pure (x1056 :: r1057)) >>= fun r1059 => pure (x1058 :: r1059)) >>= mk2 m__law_by_one) >>= fun x1074 => ((((pure (.fn "unknown") : M D) >>= fun x1062 => ((pure p1041 : M D) >>= fun x1060 => (pure []) >>= fun r1061 => pure (x1060 :: r1061)) >>= fun r1063 => pure (x1062 :: r1063)) >>= mk2 m__law_by_one) >>= fun x1072 => ((((pure (.fn "are_sizes") : M D) >>= fun x1068 => ((pure p1041 : M D) >>= fun x1066 => ((pure .non : M D) >>= fun x1064 => (pure []) >>= fun r1065 => pure (x1064 :: r1065)) >>= fun r1067 => pure (x1066 :: r1067)) >>= fun r1069 => pure (x1068 :: r1069)) >>= mk3 m__law_by_two) >>= fun x1070 => (pure []) >>= fun r1071 => pure (x1070 :: r1071)) >>= fun r1073 => pure (x1072 :: r1073)) >>= fun r1075 => pure (x1074 :: r1075)) >>= fLst) >>= fun v_words_so_1055 => (((pure v_words_so_1055 : M D) >>= fun x1083 => ((((((((pure p1041 : M D) >>= fun x1076 => (pure []) >>= fun r1077 => pure (x1076 :: r1077)) >>= mk1 m__law_good_model) >>= asB) >>= fun t1078 => if t1078 = true then (pure (.str []) : M D) else (pure (.str [109, 111, 100, 101, 108]) : M D)) >>= fun x1079 => (pure []) >>= fun r1080 => pure (x1079 :: r1080)) >>= fLst) >>= fun x1081 => (pure (.int 3) : M D) >>= fun x1082 => dMul x1081 x1082) >>= fun x1084 => dNe x1083 x1084 >>= asB) >>= fun t1085 => if t1085 = true then ((pure (.bl false) : M D) >>= fun d1087 => pure (.ret d1087)) >>= fun f1086 => thenM f1086 Empty.elim else (pure (.next ())))))) ds1171 () >>= fun f1042 => thenL f1042 fun s1040 => ((((pure v_source_961 : M D) >>= fun x1091 => (((pure v_model_so_966 : M D) >>= dLen) >>= fun x1089 => (pure []) >>= fun r1090 => pure (x1089 :: r1090)) >>= fun r1092 => pure (x1091 :: r1092)) >>= mk2 m__law_drawn_sizes) >>= fun v_sizes_so_1088 => ((((pure v_sizes_so_1088 : M D) >>= fun x1107 => (((pure v_sizes_so_1088 : M D) >>= (dList fLst)) >>= fun x1105 => (((pure v_sizes_so_1088 : M D) >>= fun x1097 => ((pure v_sizes_so_1088 : M D) >>= fun x1094 => (pure none) >>= fun l1095 => ((pure (.int 1) : M D) >>= asI) >>= fun u1096 => dSlice x1094 l1095 u1096) >>= fun x1098 => dAdd x1097 x1098) >>= fun x1103 => (((pure []) >>= mkTup) >>= fun x1101 => (((pure v_sizes_so_1088 : M D) >>= dRevT) >>= fun x1099 => (pure []) >>= fun r1100 => pure (x1099 :: r1100)) >>= fun r1102 => pure (x1101 :: r1102)) >>= fun r1104 => pure (x1103 :: r1104)) >>= fun r1106 => pure (x1105 :: r1106)) >>= fun r1108 => pure (x1107 :: r1108)) >>= newC) >>= fun v_values_1093 => (((pure (.int 12) : M D) >>= rng1) >>= fun ds1170 => loopM dec1 (fun (s1109 : Unit) p1110 => (((pure v_values_1093 : M D) >>= fun x1112 => isC x1112 >>= fun _ => (((pure v_source_961 : M D) >>= fun x1118 => ((pure v_sizes_so_1088 : M D) >>= fun x1116 => ((pure (.int 3) : M D) >>= fun x1114 => (pure []) >>= fun r1115 => pure (x1114 :: r1115)) >>= fun r1117 => pure (x1116 :: r1117)) >>= fun r1119 => pure (x1118 :: r1119)) >>= mk3 (m__law_variant 6)) >>= fun x1113 => appC x1112 x1113) >>= fun _ => (pure (.next ())))) ds1170 () >>= fun f1111 => thenL f1111 fun s1109 => ((((pure v_values_1093 : M D) >>= frz) >>= asW) >>= fun ds1169 => loopM dec1 (fun (s1120 : Unit) p1121 => ((((((((pure v_model_so_966 : M D) >>= fun x1125 => ((pure p1121 : M D) >>= fun x1123 => (pure []) >>= fun r1124 => pure (x1123 :: r1124)) >>= fun r1126 => pure (x1125 :: r1126)) >>= mk2 m_are_sizes) >>= fun x1133 => ((((pure v_model_so_966 : M D) >>= fun x1129 => ((pure p1121 : M D) >>= fun x1127 => (pure []) >>= fun r1128 => pure (x1127 :: r1128)) >>= fun r1130 => pure (x1129 :: r1130)) >>= mk2 m__law_good_sizes) >>= fun x1131 => (pure []) >>= fun r1132 => pure (x1131 :: r1132)) >>= fun r1134 => pure (x1133 :: r1134)) >>= mk2 m__law_is_bool) >>= asB) >>= fun b1135 => pure (!b1135)) >>= fun t1136 => if t1136 = true then ((pure (.bl false) : M D) >>= fun d1138 => pure (.ret d1138)) >>= fun f1137 => thenM f1137 Empty.elim else (pure (.next ())))) ds1169 () >>= fun f1122 => thenL f1122 fun s1120 => ((((pure v_model_so_966 : M D) >>= fun x1140 => (pure []) >>= fun r1141 => pure (x1140 :: r1141)) >>= mk1 m_fillings) >>= fun v_told_1139 => (((pure v_told_1139 : M D) >>= fun x1142 => isC x1142 >>= fun _ => (pure (.str [111, 100, 100]) : M D) >>= fun x1143 => appC x1142 x1143) >>= fun _ => ((bOr ((((pure v_model_so_966 : M D) >>= fun x1144 => (pure []) >>= fun r1145 => pure (x1144 :: r1145)) >>= mk1 m_fillings) >>= fun x1148 => (((pure v_model_so_966 : M D) >>= fun x1146 => (pure []) >>= fun r1147 => pure (x1146 :: r1147)) >>= mk1 m__law_filled) >>= fun x1149 => dNeC x1148 x1149 >>= asB) (((pure v_told_1139 : M D) >>= fun x1150 => (pure none) >>= fun l1151 => (((pure (.int 1) : M D) >>= dNeg) >>= asI) >>= fun u1152 => dSlice x1150 l1151 u1152) >>= fun x1155 => (((pure v_model_so_966 : M D) >>= fun x1153 => (pure []) >>= fun r1154 => pure (x1153 :: r1154)) >>= mk1 m__law_filled) >>= fun x1156 => dNe x1155 x1156 >>= asB)) >>= fun t1157 => if t1157 = true then ((pure (.bl false) : M D) >>= fun d1159 => pure (.ret d1159)) >>= fun f1158 => thenM f1158 Empty.elim else (((((pure v_model_so_966 : M D) >>= fun x1160 => (pure []) >>= fun r1161 => pure (x1160 :: r1161)) >>= mk1 m_unknown) >>= fun x1164 => (((pure v_model_so_966 : M D) >>= fun x1162 => (pure []) >>= fun r1163 => pure (x1162 :: r1163)) >>= mk1 m__law_hidden) >>= fun x1165 => dNe x1164 x1165 >>= asB) >>= fun t1166 => if t1166 = true then ((pure (.bl false) : M D) >>= fun d1168 => pure (.ret d1168)) >>= fun f1167 => thenM f1167 Empty.elim else (pure (.next ()))))))))))))))))) ds1284 () >>= fun f960 => thenL f960 fun s958 => ((bOr ((((((pure (.str [63, 63, 63, 48]) : M D) >>= fun x1179 => ((pure (.str [63, 63, 48, 48]) : M D) >>= fun x1177 => ((pure (.str [48, 48, 48, 48]) : M D) >>= fun x1175 => ((pure (.str [48, 48, 48, 48]) : M D) >>= fun x1173 => (pure []) >>= fun r1174 => pure (x1173 :: r1174)) >>= fun r1176 => pure (x1175 :: r1176)) >>= fun r1178 => pure (x1177 :: r1178)) >>= fun r1180 => pure (x1179 :: r1180)) >>= mkTup) >>= fun x1181 => (pure []) >>= fun r1182 => pure (x1181 :: r1182)) >>= mk1 m_is_model) >>= asB) ((((((pure (.str [45]) : M D) >>= fun x1183 => (pure []) >>= fun r1184 => pure (x1183 :: r1184)) >>= mkTup) >>= fun x1191 => ((((((pure (.int 0) : M D) >>= fun x1185 => (pure []) >>= fun r1186 => pure (x1185 :: r1186)) >>= mkTup) >>= fun x1187 => (pure []) >>= fun r1188 => pure (x1187 :: r1188)) >>= mkTup) >>= fun x1189 => (pure []) >>= fun r1190 => pure (x1189 :: r1190)) >>= fun r1192 => pure (x1191 :: r1192)) >>= mk2 m_are_sizes) >>= asB)) >>= fun t1193 => if t1193 = true then ((pure (.bl false) : M D) >>= fun d1195 => pure (.ret d1195)) >>= fun f1194 => thenM f1194 Empty.elim else (((((((((pure (.str [63, 63, 63, 63]) : M D) >>= fun x1196 => (pure []) >>= fun r1197 => pure (x1196 :: r1197)) >>= mkTup) >>= fun x1202 => ((((pure (.str [48, 48, 48, 48]) : M D) >>= fun x1198 => (pure []) >>= fun r1199 => pure (x1198 :: r1199)) >>= mkTup) >>= fun x1200 => (pure (.int 3) : M D) >>= fun x1201 => dMul x1200 x1201) >>= fun x1203 => dAdd x1202 x1203) >>= fun x1204 => (pure []) >>= fun r1205 => pure (x1204 :: r1205)) >>= mk1 m_is_model) >>= asB) >>= fun b1206 => pure (!b1206)) >>= fun t1207 => if t1207 = true then ((pure (.bl false) : M D) >>= fun d1209 => pure (.ret d1209)) >>= fun f1208 => thenM f1208 Empty.elim else ((bOr ((((((pure (.str [45, 48]) : M D) >>= fun x1212 => ((pure (.str [63, 45]) : M D) >>= fun x1210 => (pure []) >>= fun r1211 => pure (x1210 :: r1211)) >>= fun r1213 => pure (x1212 :: r1213)) >>= mkTup) >>= fun x1214 => (pure []) >>= fun r1215 => pure (x1214 :: r1215)) >>= mk1 m_fillings) >>= fun x1234 => (((((pure (.str [45, 48]) : M D) >>= fun x1218 => ((pure (.str [43, 45]) : M D) >>= fun x1216 => (pure []) >>= fun r1217 => pure (x1216 :: r1217)) >>= fun r1219 => pure (x1218 :: r1219)) >>= mkTup) >>= fun x1232 => ((((pure (.str [45, 48]) : M D) >>= fun x1222 => ((pure (.str [45, 45]) : M D) >>= fun x1220 => (pure []) >>= fun r1221 => pure (x1220 :: r1221)) >>= fun r1223 => pure (x1222 :: r1223)) >>= mkTup) >>= fun x1230 => ((((pure (.str [45, 48]) : M D) >>= fun x1226 => ((pure (.str [48, 45]) : M D) >>= fun x1224 => (pure []) >>= fun r1225 => pure (x1224 :: r1225)) >>= fun r1227 => pure (x1226 :: r1227)) >>= mkTup) >>= fun x1228 => (pure []) >>= fun r1229 => pure (x1228 :: r1229)) >>= fun r1231 => pure (x1230 :: r1231)) >>= fun r1233 => pure (x1232 :: r1233)) >>= fLst) >>= fun x1235 => dNeC x1234 x1235 >>= asB) (((((((pure (.str [63, 63]) : M D) >>= fun x1238 => ((pure (.str [63, 63]) : M D) >>= fun x1236 => (pure []) >>= fun r1237 => pure (x1236 :: r1237)) >>= fun r1239 => pure (x1238 :: r1239)) >>= mkTup) >>= fun x1240 => (pure []) >>= fun r1241 => pure (x1240 :: r1241)) >>= mk1 m_fillings) >>= dLen) >>= fun x1242 => (pure (.int 81) : M D) >>= fun x1243 => dNe x1242 x1243 >>= asB)) >>= fun t1244 => if t1244 = true then ((pure (.bl false) : M D) >>= fun d1246 => pure (.ret d1246)) >>= fun f1245 => thenM f1245 Empty.elim else ((vAnd ((((((pure (.str [45, 63]) : M D) >>= fun x1249 => ((pure (.str [43, 45]) : M D) >>= fun x1247 => (pure []) >>= fun r1248 => pure (x1247 :: r1248)) >>= fun r1250 => pure (x1249 :: r1250)) >>= mkTup) >>= fun x1251 => (pure []) >>= fun r1252 => pure (x1251 :: r1252)) >>= mk1 m_unknown) >>= fun x1259 => (((((pure (.int 0) : M D) >>= fun x1255 => ((pure (.int 1) : M D) >>= fun x1253 => (pure []) >>= fun r1254 => pure (x1253 :: r1254)) >>= fun r1256 => pure (x1255 :: r1256)) >>= mkTup) >>= fun x1257 => (pure []) >>= fun r1258 => pure (x1257 :: r1258)) >>= fLst) >>= fun x1260 => dEq x1259 x1260) (vAnd ((((((pure (.str [45]) : M D) >>= fun x1261 => (pure []) >>= fun r1262 => pure (x1261 :: r1262)) >>= mkTup) >>= fun x1263 => (pure []) >>= fun r1264 => pure (x1263 :: r1264)) >>= mk1 m_fillings) >>= fun x1269 => (((((pure (.str [45]) : M D) >>= fun x1265 => (pure []) >>= fun r1266 => pure (x1265 :: r1266)) >>= mkTup) >>= fun x1267 => (pure []) >>= fun r1268 => pure (x1267 :: r1268)) >>= fLst) >>= fun x1270 => dEqC x1269 x1270) (((((pure (.str [45]) : M D) >>= fun x1271 => (pure []) >>= fun r1272 => pure (x1271 :: r1272)) >>= mkTup) >>= fun x1281 => (((((((pure (.int 10) : M D) >>= fun x1273 => (pure (.int 30) : M D) >>= fun x1274 => dPow x1273 x1274) >>= fun x1275 => (pure []) >>= fun r1276 => pure (x1275 :: r1276)) >>= mkTup) >>= fun x1277 => (pure []) >>= fun r1278 => pure (x1277 :: r1278)) >>= mkTup) >>= fun x1279 => (pure []) >>= fun r1280 => pure (x1279 :: r1280)) >>= fun r1282 => pure (x1281 :: r1282)) >>= mk2 m_are_sizes))) >>= fun d1283 => pure (.ret d1283))))))
def m_law (v_script : D) : M D := mB_law v_script >>= retM
theorem law_fn (fx : Fx P w K mg base) {fd : FuncData} (F : FunD K "law" "law" (defArgs (top 49)) (defBody (top 49)) (defScope (top 49)) [] [] (He.ga K "law") fd) : FnOk P w K mg base (L2N.CX P w) 17 (He.ga K "law") fd ["script"] (SpD K 1 (mk1 m_law)) := by
  have nd : (["script", "k", "source", "model_so", "values", "turn", "odd", "value", "words_so", "sizes_so", "told"] : List PySem.Str).Nodup := by decide
  refine fn_to (fn_cal (N := ["script", "k", "source", "model_so", "values", "turn", "odd", "value", "words_so", "sizes_so", "told"]) (ps := ["script"]) (eN := eE) (k := 16) (mB := fun ds => match ds with | [v_script] => mB_law v_script | _ => M.stuck) F fx.g_law ⟨rfl, rfl, rfl, by decide, rfl, by decide, by decide⟩ (fun _ _ _ _ _ _ us hl => match us, hl with | [_], _ => rfl) (fun cdv A outer s H E ds hl hcd hr => ?_)) ?_
  · match ds, hl with
    | [v_script], _ => exact (db_for (es := fun (s958 : Unit) => [.val v_script, .none, .none, .none, .none, .none, .none, .none, .none, .none, .none]) () (.k (.k (.k (.k (.k (.k (.k (.k (.k (.k (.k .nil))))))))))) (passes_of rfl) rfl (g_name 1) (di_range1 rfl fx.b_range (de_b2 (call_max2 rfl) rc_max2 rfl fx.b_max rfl de_int (de_b2 (call_min2 rfl) rc_min2 rfl fx.b_min rfl de_int (de_b1 cr_lenA rc_len rfl fx.b_len rfl (de_var 0 rfl rfl (visB rfl) rfl rfl) (by decide) rfl rfl) (by decide) rfl rfl rfl) (by decide) rfl rfl rfl) rfl) (pg_name nd rfl (locB rfl)) (fun _ => rfl) (fun s958 p959 => (db_set 2 (de_call (c__law_source fx) hr (by first | decide | omega) rfl (passF (L2N.takes_of rfl rfl rfl rfl)) (da_cons (de_var 0 rfl rfl (visB rfl) rfl rfl) (da_cons (de_var 1 rfl rfl (visB rfl) rfl rfl) da_nil rfl) rfl) rfl rfl rfl rfl rfl (mk2_len _)) nd rfl (locB rfl) rfl (by first | exact .inl rfl | exact .inr rfl) (fun v_source_961 => (db_set 3 (de_call (c__law_drawn_model fx) hr (by first | decide | omega) rfl (passF (L2N.takes_of rfl rfl rfl rfl)) (da_cons (de_var 2 rfl rfl (visB rfl) rfl rfl) (da_cons de_int (da_cons de_int da_nil rfl) rfl) rfl) rfl rfl rfl rfl rfl (mk3_len _)) nd rfl (locB rfl) rfl (by first | exact .inl rfl | exact .inr rfl) (fun v_model_so_966 => (db_set 4 (de_lstF fLst_ok (da_cons (de_var 3 rfl rfl (visB rfl) rfl rfl) (da_cons (de_ty1 call_list_of (rc_list fLst_ok) rfl fx.b_list rfl (de_var 3 rfl rfl (visB rfl) rfl rfl) (by decide) rfl rfl) (da_cons (de_slice (de_var 3 rfl rfl (visB rfl) rfl rfl) do_none (do_some (de_un un_neg ru_neg de_int))) (da_cons (de_op2 op_addA rd_add (de_var 3 rfl rfl (visB rfl) rfl rfl) (de_tup (da_cons (de_str rfl rfl) da_nil rfl))) (da_cons (de_join (de_str rfl rfl) (de_var 3 rfl rfl (visB rfl) rfl rfl) rfl rfl rfl) (da_cons (de_tup da_nil) da_nil rfl) rfl) rfl) rfl) rfl) rfl)) nd rfl (locB rfl) rfl (by first | exact .inl rfl | exact .inr rfl) (fun v_values_973 => (db_set 4 (de_op2 op_addA rd_add (de_var 4 rfl rfl (visB rfl) rfl rfl) (de_lstF fLst_ok (da_cons (de_tup (da_cons (de_str rfl rfl) da_nil rfl)) (da_cons (de_op2 op_mulA rd_mul (de_tup (da_cons (de_str rfl rfl) da_nil rfl)) de_int) da_nil rfl) rfl))) nd rfl (locB rfl) rfl (by first | exact .inl rfl | exact .inr rfl) (fun v_values_995 => (db_for (es := fun (s1008 : D) => [.val v_script, .val p959, .val v_source_961, .val v_model_so_966, .val s1008, .none, .none, .none, .none, .none, .none]) v_values_995 (.k (.k (.k (.k (.k (.k (.k (.k (.k (.k (.k .nil))))))))))) (passes_of rfl) rfl (g_name 5) (di_range1 rfl fx.b_range de_int rfl) (pg_name nd rfl (locB rfl)) (fun _ => rfl) (fun s1008 p1009 => (db_set 6 (de_call (c__law_variant fx 6) hr (by first | decide | omega) rfl (passF (L2N.takes_of rfl rfl rfl rfl)) (da_cons (de_var 2 rfl rfl (visB rfl) rfl rfl) (da_cons (de_var 3 rfl rfl (visB rfl) rfl rfl) (da_cons de_int da_nil rfl) rfl) rfl) rfl rfl rfl rfl rfl (mk3_len _)) nd rfl (locB rfl) rfl (by first | exact .inl rfl | exact .inr rfl) (fun v_odd_1011 => (db_set 4 (de_op2 op_addA rd_add (de_var 4 rfl rfl (visB rfl) rfl rfl) (de_lstF fLst_ok (da_cons (de_var 6 rfl rfl (visB rfl) rfl rfl) (da_cons (de_ifExp (dt_val (de_isi (T := .tuple) rfl fx.b_isinstance rfl fx.b_tuple rfl (by decide) rfl (de_var 6 rfl rfl (visB rfl) rfl rfl) rfl rfl) (fun _ => rfl)) (de_call (c__law_variant fx 6) hr (by first | decide | omega) rfl (passF (L2N.takes_of rfl rfl rfl rfl)) (da_cons (de_var 2 rfl rfl (visB rfl) rfl rfl) (da_cons (de_var 6 rfl rfl (visB rfl) rfl rfl) (da_cons de_int da_nil rfl) rfl) rfl) rfl rfl rfl rfl rfl (mk3_len _)) (de_var 6 rfl rfl (visB rfl) rfl rfl)) da_nil rfl) rfl))) nd rfl (locB rfl) rfl (by first | exact .inl rfl | exact .inr rfl) (fun v_values_1018 => (db_nil (s := v_values_1018) (.k (.k (.k (.k (.k (.n (.n (.k (.k (.k (.k .nil))))))))))))))))) (fun s1008 => (db_for (es := fun (s1040 : Unit) => [.val v_script, .val p959, .val v_source_961, .val v_model_so_966, .val s1008, .none, .none, .none, .none, .none, .none]) () (.k (.k (.k (.k (.k (.k (.k (.k (.k (.k (.k .nil))))))))))) (passes_of rfl) rfl (g_name 7) (di_any (de_op2 op_addA rd_add (de_var 4 rfl rfl (visB rfl) rfl rfl) (de_lstF fLst_ok (da_cons (de_call (c__law_any_value fx 6) hr (by first | decide | omega) rfl (passF (L2N.takes_of rfl rfl rfl rfl)) (da_cons (de_var 2 rfl rfl (visB rfl) rfl rfl) (da_cons de_int da_nil rfl) rfl) rfl rfl rfl rfl rfl (mk2_len _)) da_nil rfl)))) (pg_name nd rfl (locB rfl)) (fun _ => rfl) (fun s1040 p1041 => (db_if1 (dt_not (dt_val (de_call (c__law_is_bool fx) hr (by first | decide | omega) rfl (passF (L2N.takes_of rfl rfl rfl rfl)) (da_cons (de_call (c_is_model fx) hr (by first | decide | omega) rfl (passF (L2N.takes_of rfl rfl rfl rfl)) (da_cons (de_var 7 rfl rfl (visB rfl) rfl rfl) da_nil rfl) rfl rfl rfl rfl rfl (mk1_len _)) (da_cons (de_call (c__law_good_model fx) hr (by first | decide | omega) rfl (passF (L2N.takes_of rfl rfl rfl rfl)) (da_cons (de_var 7 rfl rfl (visB rfl) rfl rfl) da_nil rfl) rfl rfl rfl rfl rfl (mk1_len _)) da_nil rfl) rfl) rfl rfl rfl rfl rfl (mk2_len _)) (fun _ => rfl))) (db_ret de_bl) (db_set 8 (de_lstF fLst_ok (da_cons (de_call (c__law_by_one fx) hr (by first | decide | omega) rfl (passF (L2N.takes_of rfl rfl rfl rfl)) (da_cons (de_fn rfl fx.g_fillings rfl) (da_cons (de_var 7 rfl rfl (visB rfl) rfl rfl) da_nil rfl) rfl) rfl rfl rfl rfl rfl (mk2_len _)) (da_cons (de_call (c__law_by_one fx) hr (by first | decide | omega) rfl (passF (L2N.takes_of rfl rfl rfl rfl)) (da_cons (de_fn rfl fx.g_unknown rfl) (da_cons (de_var 7 rfl rfl (visB rfl) rfl rfl) da_nil rfl) rfl) rfl rfl rfl rfl rfl (mk2_len _)) (da_cons (de_call (c__law_by_two fx) hr (by first | decide | omega) rfl (passF (L2N.takes_of rfl rfl rfl rfl)) (da_cons (de_fn rfl fx.g_are_sizes rfl) (da_cons (de_var 7 rfl rfl (visB rfl) rfl rfl) (da_cons de_non da_nil rfl) rfl) rfl) rfl rfl rfl rfl rfl (mk3_len _)) da_nil rfl) rfl) rfl)) nd rfl (locB rfl) rfl (by first | exact .inl rfl | exact .inr rfl) (fun v_words_so_1055 => (db_if1 (dt_cmp (op_neD (hu64 hr)) rd_ne (de_var 8 rfl rfl (visB rfl) rfl rfl) (de_op2 op_mulA rd_mul (de_lstF fLst_ok (da_cons (de_ifExp (dt_val (de_call (c__law_good_model fx) hr (by first | decide | omega) rfl (passF (L2N.takes_of rfl rfl rfl rfl)) (da_cons (de_var 7 rfl rfl (visB rfl) rfl rfl) da_nil rfl) rfl rfl rfl rfl rfl (mk1_len _)) (fun _ => rfl)) (de_str rfl rfl) (de_str rfl rfl)) da_nil rfl)) de_int) rfl) (db_ret de_bl) (db_nil (s := ()) (.k (.k (.k (.k (.k (.k (.k (.n (.n (.k (.k .nil))))))))))))))))) (fun s1040 => (db_set 9 (de_call (c__law_drawn_sizes fx) hr (by first | decide | omega) rfl (passF (L2N.takes_of rfl rfl rfl rfl)) (da_cons (de_var 2 rfl rfl (visB rfl) rfl rfl) (da_cons (de_b1 cr_lenA rc_len rfl fx.b_len rfl (de_var 3 rfl rfl (visB rfl) rfl rfl) (by decide) rfl rfl) da_nil rfl) rfl) rfl rfl rfl rfl rfl (mk2_len _)) nd rfl (locB rfl) rfl (by first | exact .inl rfl | exact .inr rfl) (fun v_sizes_so_1088 => (db_set 4 (de_lstF newC_ok (da_cons (de_var 9 rfl rfl (visB rfl) rfl rfl) (da_cons (de_ty1 call_list_of (rc_list fLst_ok) rfl fx.b_list rfl (de_var 9 rfl rfl (visB rfl) rfl rfl) (by decide) rfl rfl) (da_cons (de_op2 op_addA rd_add (de_var 9 rfl rfl (visB rfl) rfl rfl) (de_slice (de_var 9 rfl rfl (visB rfl) rfl rfl) do_none (do_some de_int))) (da_cons (de_tup da_nil) (da_cons (de_revT (de_var 9 rfl rfl (visB rfl) rfl rfl)) da_nil rfl) rfl) rfl) rfl) rfl)) nd rfl (locB rfl) rfl (by first | exact .inl rfl | exact .inr rfl) (fun v_values_1093 => (db_for (es := fun (s1109 : Unit) => [.val v_script, .val p959, .val v_source_961, .val v_model_so_966, .val v_values_1093, .none, .none, .none, .none, .val v_sizes_so_1088, .none]) () (.k (.k (.k (.k (.k (.k (.k (.k (.k (.k (.k .nil))))))))))) (passes_of rfl) rfl (g_name 5) (di_range1 rfl fx.b_range de_int rfl) (pg_name nd rfl (locB rfl)) (fun _ => rfl) (fun s1109 p1110 => (db_expr (de_append (de_var 4 rfl rfl (visB rfl) rfl rfl) (de_call (c__law_variant fx 6) hr (by first | decide | omega) rfl (passF (L2N.takes_of rfl rfl rfl rfl)) (da_cons (de_var 2 rfl rfl (visB rfl) rfl rfl) (da_cons (de_var 9 rfl rfl (visB rfl) rfl rfl) (da_cons de_int da_nil rfl) rfl) rfl) rfl rfl rfl rfl rfl (mk3_len _)) rfl rfl rfl rfl) rfl (db_nil (s := ()) (.k (.k (.k (.k (.k (.n (.k (.k (.k (.k (.k .nil)))))))))))))) (fun s1109 => (db_for (es := fun (s1120 : Unit) => [.val v_script, .val p959, .val v_source_961, .val v_model_so_966, .val v_values_1093, .none, .none, .none, .none, .val v_sizes_so_1088, .none]) () (.k (.k (.k (.k (.k (.k (.k (.k (.k (.k (.k .nil))))))))))) (passes_of rfl) rfl (g_name 7) (di_any (de_frz (de_var 4 rfl rfl (visB rfl) rfl rfl))) (pg_name nd rfl (locB rfl)) (fun _ => rfl) (fun s1120 p1121 => (db_if1 (dt_not (dt_val (de_call (c__law_is_bool fx) hr (by first | decide | omega) rfl (passF (L2N.takes_of rfl rfl rfl rfl)) (da_cons (de_call (c_are_sizes fx) hr (by first | decide | omega) rfl (passF (L2N.takes_of rfl rfl rfl rfl)) (da_cons (de_var 3 rfl rfl (visB rfl) rfl rfl) (da_cons (de_var 7 rfl rfl (visB rfl) rfl rfl) da_nil rfl) rfl) rfl rfl rfl rfl rfl (mk2_len _)) (da_cons (de_call (c__law_good_sizes fx) hr (by first | decide | omega) rfl (passF (L2N.takes_of rfl rfl rfl rfl)) (da_cons (de_var 3 rfl rfl (visB rfl) rfl rfl) (da_cons (de_var 7 rfl rfl (visB rfl) rfl rfl) da_nil rfl) rfl) rfl rfl rfl rfl rfl (mk2_len _)) da_nil rfl) rfl) rfl rfl rfl rfl rfl (mk2_len _)) (fun _ => rfl))) (db_ret de_bl) (db_nil (s := ()) (.k (.k (.k (.k (.k (.k (.k (.n (.k (.k (.k .nil)))))))))))))) (fun s1120 => (db_set 10 (de_call (c_fillings fx) hr (by first | decide | omega) rfl (passF (L2N.takes_of rfl rfl rfl rfl)) (da_cons (de_var 3 rfl rfl (visB rfl) rfl rfl) da_nil rfl) rfl rfl rfl rfl rfl (mk1_len _)) nd rfl (locB rfl) rfl (by first | exact .inl rfl | exact .inr rfl) (fun v_told_1139 => (db_expr (de_append (de_var 10 rfl rfl (visB rfl) rfl rfl) (de_str rfl rfl) rfl rfl rfl rfl) rfl (db_if1 (DW.dt (dw_or (dt_cmp (op_neD (hu64 hr)) rd_neC (de_call (c_fillings fx) hr (by first | decide | omega) rfl (passF (L2N.takes_of rfl rfl rfl rfl)) (da_cons (de_var 3 rfl rfl (visB rfl) rfl rfl) da_nil rfl) rfl rfl rfl rfl rfl (mk1_len _)) (de_call (c__law_filled fx) hr (by first | decide | omega) rfl (passF (L2N.takes_of rfl rfl rfl rfl)) (da_cons (de_var 3 rfl rfl (visB rfl) rfl rfl) da_nil rfl) rfl rfl rfl rfl rfl (mk1_len _)) rfl) (dw_or1 (dt_cmp (op_neD (hu64 hr)) rd_ne (de_slice (de_var 10 rfl rfl (visB rfl) rfl rfl) do_none (do_some (de_un un_neg ru_neg de_int))) (de_call (c__law_filled fx) hr (by first | decide | omega) rfl (passF (L2N.takes_of rfl rfl rfl rfl)) (da_cons (de_var 3 rfl rfl (visB rfl) rfl rfl) da_nil rfl) rfl rfl rfl rfl rfl (mk1_len _)) rfl)))) (db_ret de_bl) (db_if1 (dt_cmp (op_neD (hu64 hr)) rd_ne (de_call (c_unknown fx) hr (by first | decide | omega) rfl (passF (L2N.takes_of rfl rfl rfl rfl)) (da_cons (de_var 3 rfl rfl (visB rfl) rfl rfl) da_nil rfl) rfl rfl rfl rfl rfl (mk1_len _)) (de_call (c__law_hidden fx) hr (by first | decide | omega) rfl (passF (L2N.takes_of rfl rfl rfl rfl)) (da_cons (de_var 3 rfl rfl (visB rfl) rfl rfl) da_nil rfl) rfl rfl rfl rfl rfl (mk1_len _)) rfl) (db_ret de_bl) (db_nil (s := ()) (.k (.n (.n (.n (.n (.k (.k (.k (.k (.n (.n .nil)))))))))))))))))))))))))))))))))))))) (fun s958 => (db_if1 (DW.dt (dw_or (dt_val (de_call (c_is_model fx) hr (by first | decide | omega) rfl (passF (L2N.takes_of rfl rfl rfl rfl)) (da_cons (de_tup (da_cons (de_str rfl rfl) (da_cons (de_str rfl rfl) (da_cons (de_str rfl rfl) (da_cons (de_str rfl rfl) da_nil rfl) rfl) rfl) rfl)) da_nil rfl) rfl rfl rfl rfl rfl (mk1_len _)) (fun _ => rfl)) (dw_or1 (dt_val (de_call (c_are_sizes fx) hr (by first | decide | omega) rfl (passF (L2N.takes_of rfl rfl rfl rfl)) (da_cons (de_tup (da_cons (de_str rfl rfl) da_nil rfl)) (da_cons (de_tup (da_cons (de_tup (da_cons de_int da_nil rfl)) da_nil rfl)) da_nil rfl) rfl) rfl rfl rfl rfl rfl (mk2_len _)) (fun _ => rfl))))) (db_ret de_bl) (db_if1 (dt_not (dt_val (de_call (c_is_model fx) hr (by first | decide | omega) rfl (passF (L2N.takes_of rfl rfl rfl rfl)) (da_cons (de_op2 op_addA rd_add (de_tup (da_cons (de_str rfl rfl) da_nil rfl)) (de_op2 op_mulA rd_mul (de_tup (da_cons (de_str rfl rfl) da_nil rfl)) de_int)) da_nil rfl) rfl rfl rfl rfl rfl (mk1_len _)) (fun _ => rfl))) (db_ret de_bl) (db_if1 (DW.dt (dw_or (dt_cmp (op_neD (hu64 hr)) rd_neC (de_call (c_fillings fx) hr (by first | decide | omega) rfl (passF (L2N.takes_of rfl rfl rfl rfl)) (da_cons (de_tup (da_cons (de_str rfl rfl) (da_cons (de_str rfl rfl) da_nil rfl) rfl)) da_nil rfl) rfl rfl rfl rfl rfl (mk1_len _)) (de_lstF fLst_ok (da_cons (de_tup (da_cons (de_str rfl rfl) (da_cons (de_str rfl rfl) da_nil rfl) rfl)) (da_cons (de_tup (da_cons (de_str rfl rfl) (da_cons (de_str rfl rfl) da_nil rfl) rfl)) (da_cons (de_tup (da_cons (de_str rfl rfl) (da_cons (de_str rfl rfl) da_nil rfl) rfl)) da_nil rfl) rfl) rfl)) rfl) (dw_or1 (dt_cmp (op_neD (hu64 hr)) rd_ne (de_b1 cr_lenA rc_len rfl fx.b_len rfl (de_call (c_fillings fx) hr (by first | decide | omega) rfl (passF (L2N.takes_of rfl rfl rfl rfl)) (da_cons (de_tup (da_cons (de_str rfl rfl) (da_cons (de_str rfl rfl) da_nil rfl) rfl)) da_nil rfl) rfl rfl rfl rfl rfl (mk1_len _)) (by decide) rfl rfl) de_int rfl)))) (db_ret de_bl) (db_ret (de_and (de_cmp (op_eqD (hu64 hr)) rd_eq (de_call (c_unknown fx) hr (by first | decide | omega) rfl (passF (L2N.takes_of rfl rfl rfl rfl)) (da_cons (de_tup (da_cons (de_str rfl rfl) (da_cons (de_str rfl rfl) da_nil rfl) rfl)) da_nil rfl) rfl rfl rfl rfl rfl (mk1_len _)) (de_lstF fLst_ok (da_cons (de_tup (da_cons de_int (da_cons de_int da_nil rfl) rfl)) da_nil rfl)) rfl) (de_and (de_cmp (op_eqD (hu64 hr)) rd_eqC (de_call (c_fillings fx) hr (by first | decide | omega) rfl (passF (L2N.takes_of rfl rfl rfl rfl)) (da_cons (de_tup (da_cons (de_str rfl rfl) da_nil rfl)) da_nil rfl) rfl rfl rfl rfl rfl (mk1_len _)) (de_lstF fLst_ok (da_cons (de_tup (da_cons (de_str rfl rfl) da_nil rfl)) da_nil rfl)) rfl) (de_one (de_call (c_are_sizes fx) hr (by first | decide | omega) rfl (passF (L2N.takes_of rfl rfl rfl rfl)) (da_cons (de_tup (da_cons (de_str rfl rfl) da_nil rfl)) (da_cons (de_tup (da_cons (de_tup (da_cons (de_op2 op_pow rd_pow de_int de_int) da_nil rfl)) da_nil rfl)) da_nil rfl) rfl) rfl rfl rfl rfl rfl (mk2_len _)))))))))))
  · intro ds hl
    match ds, hl with
    | [_], _ => rfl
def tabsL : List (Str × Str) := [("_law_by_one", lamQ "_law_by_one"), ("_law_by_two", lamQ "_law_by_two")]
end My
/-! KP1: the plain law's tools. -/
namespace My
open PySem PySem.Spec PyProof.Rows L2 DL DH

/-- the mirror ends well, with this (a structure: nothing unfolds it) -/
structure Tr {α : Type} (m : M α) (st : Store) (P : α → Store → Prop) : Prop where
  ex : ∃ a s, m st = .ok a s ∧ P a s
section
variable {α β : Type} {m : M α} {f : α → M β} {st : Store} {P Q : α → Store → Prop}
theorem tr_ok {a : α} {s : Store} (e : m st = .ok a s) (h : P a s) : Tr m st P := ⟨a, s, e, h⟩
theorem tr_pure {a : α} (h : P a st) : Tr (pure a : M α) st P := tr_ok rfl h
theorem tr_get (h : Tr m st P) : ∃ a s, m st = .ok a s ∧ P a s := h.ex
theorem tr_mono (h : Tr m st P) (k : ∀ a s, P a s → Q a s) : Tr m st Q := by
  obtain ⟨a, s, e, p⟩ := h.ex
  exact tr_ok e (k a s p)
theorem tr_bind {R : β → Store → Prop} (h : Tr m st fun a s => Tr (f a) s R) : Tr (m >>= f) st R := by
  obtain ⟨a, s, e, p⟩ := h.ex
  obtain ⟨b, s2, e2, p2⟩ := p.ex
  exact tr_ok (by rw [bind_ok e]; exact e2) p2
theorem tr_then {R : β → Store → Prop} (h : Tr m st P) (k : ∀ a s, P a s → Tr (f a) s R) : Tr (m >>= f) st R := tr_bind (tr_mono h k)
theorem tr_eq {m' : M α} (e : m = m') (h : Tr m' st P) : Tr m st P := by rw [e]; exact h
theorem tr_nox (h : Tr m st P) : Tr (nox m) st P := by
  obtain ⟨a, s, e, p⟩ := tr_get h
  exact tr_ok (by unfold nox; rw [e]) p
end
/-! ### what the operations are -/
theorem ii_add (i j : Int) : dAdd (.int i) (.int j) = pure (.int (i + j)) := rfl
theorem ii_sub (i j : Int) : dSub (.int i) (.int j) = pure (.int (i - j)) := rfl
theorem ii_le (i j : Int) : dLe (.int i) (.int j) = pure (.bl (decide (i ≤ j))) := rfl
theorem ii_lt (i j : Int) : dLt (.int i) (.int j) = pure (.bl (decide (i < j))) := rfl
theorem ii_ge (i j : Int) : dGe (.int i) (.int j) = pure (.bl (decide (j ≤ i))) := rfl
theorem ii_gt (i j : Int) : dGt (.int i) (.int j) = pure (.bl (decide (j < i))) := rfl
theorem ii_mul {i j : Int} (h : mulOk i j) : dMul (.int i) (.int j) = pure (.int (i * j)) := if_pos h
theorem ii_mod {i j : Int} (h : j ≠ 0) : dMod (.int i) (.int j) = pure (.int (i.fmod j)) := if_pos h
theorem ii_div {i j : Int} (h : divOk j) : dFdiv (.int i) (.int j) = pure (.int (i.fdiv j)) := if_pos h
theorem b_as (b : Bool) : asB (.bl b) = pure b := rfl
theorem i_int (i : Int) : dInt (.int i) = pure (.int i) := rfl
theorem l_len (xs : List D) : dLen (.lst xs) = pure (.int xs.length) := rfl
theorem t_len (xs : List D) : dLen (.tup xs) = pure (.int xs.length) := rfl
theorem s_len (cs : List Nat) : dLen (.str cs) = pure (.int cs.length) := rfl
theorem c_len (ns : List Int) : dLen (.scr ns) = pure (.int ns.length) := rfl
theorem m2 (g : D → D → M D) (a b : D) : mk2 g [a, b] = g a b := rfl
theorem m1 (g : D → M D) (a : D) : mk1 g [a] = g a := rfl
theorem m3 (g : D → D → D → M D) (a b c : D) : mk3 g [a, b, c] = g a b c := rfl
theorem r_ret {N : Type} (d : D) : retM (.ret d : Fl N Empty) = pure d := rfl
theorem th_ret {N N' T : Type} (d : D) (k : N' → M (Fl N T)) : thenM (.ret d : Fl N' T) k = pure (.ret d) := rfl
theorem th_next {N N' T : Type} (s : N') (k : N' → M (Fl N T)) : thenM (.next s : Fl N' T) k = k s := rfl
theorem tl_ret {N T S : Type} (d : D) (k : S → M (Fl N T)) : thenL (.ret d : Fl S Empty) k = pure (.ret d) := rfl
theorem tl_next {N T S : Type} (s : S) (k : S → M (Fl N T)) : thenL (.next s : Fl S Empty) k = k s := rfl
theorem ifT {α : Type} {a b : α} : (if true = true then a else b) = a := if_pos rfl
theorem ifF {α : Type} {a b : α} : (if false = true then a else b) = b := if_neg Bool.false_ne_true
section
variable {α : Type} {f : D → M α} {g : Unit → M α} {st : Store} {i : Nat} {xs : List D}
theorem ix_ref {k : Int} {d : D} (h : st[i]? = some (.lst xs)) (h2 : atI xs k = some d) : (dIndex (.ref i) (.int k) >>= f) st = f d st := by
  have e : dIndex (.ref i) (.int k) st = .ok d st := by
    show (match st[i]? with | some (.lst xs) => (match atI xs k with | some d => .ok d st | none => .stuck) | _ => .stuck : R D) = _
    rw [h]
    show (match atI xs k with | some d => .ok d st | none => .stuck : R D) = _
    rw [h2]
  exact bind_ok e
theorem set_ref {k : Int} {j : Nat} {v : D} (h : st[i]? = some (.lst xs)) (h2 : ixN xs.length k = some j) : (setC (.ref i) (.int k) v >>= g) st = g () (st.set i (.lst (xs.set j v))) := by
  have e : setC (.ref i) (.int k) v st = .ok () (st.set i (.lst (xs.set j v))) := by
    show (rdC i >>= fun xs => match ixN xs.length k with | some j => wrC i (.lst (xs.set j v)) | none => M.stuck) st = _
    rw [bind_ok (rdC_ok h), h2]
    rfl
  exact bind_ok e
end
/-! ### the source -/
/-- the source stands at i -/
def Gs (i : Nat) (st : Store) : Prop := ∃ a b : Int, st[i]? = some (.lst [.int a, .int b])
/-- from st to s: the source drawn from, cells added, all else as it was -/
structure Fr (i : Nat) (st s : Store) : Prop where
  len : st.length ≤ s.length
  keep : ∀ j, j < st.length → j ≠ i → s[j]? = st[j]?
  src : Gs i s
theorem Gs.lt {i : Nat} {st : Store} (h : Gs i st) : i < st.length := by
  obtain ⟨a, b, h⟩ := h
  exact (List.getElem?_eq_some_iff.mp h).1
theorem Fr.refl {i : Nat} {st : Store} (h : Gs i st) : Fr i st st := ⟨Nat.le_refl _, fun _ _ _ => rfl, h⟩
theorem Fr.trans {i : Nat} {s1 s2 s3 : Store} (h : Fr i s1 s2) (h' : Fr i s2 s3) : Fr i s1 s3 :=
  ⟨Nat.le_trans h.len h'.len, fun j hj ne => (h'.keep j (Nat.lt_of_lt_of_le hj h.len) ne).trans (h.keep j hj ne), h'.src⟩
theorem Fr.at {i j : Nat} {st s : Store} {c : Cell} (h : Fr i st s) (hj : st[j]? = some c) (ne : j ≠ i) : s[j]? = some c := (h.keep j (List.getElem?_eq_some_iff.mp hj).1 ne).trans hj
theorem Fr.set {i : Nat} {st : Store} (h : Gs i st) (a b : Int) : Fr i st (st.set i (.lst [.int a, .int b])) :=
  ⟨by rw [List.length_set]; exact Nat.le_refl _, fun j hj ne => List.getElem?_set_ne (Ne.symm ne), a, b, List.getElem?_set_self h.lt⟩
theorem mulSmall {i j : Int} (h1 : -(2 ^ 64) < j) (h2 : j < 2 ^ 64) : mulOk i j := .inl (.inr ⟨h1, h2⟩)
theorem pick_tr {st : Store} {i : Nat} {n : Int} (h : Gs i st) (h0 : 0 < n) (h1 : n < 1073741824) : Tr (m__law_pick (.ref i) (.int n)) st fun d s => Fr i st s ∧ ∃ r : Int, d = .int r ∧ 0 ≤ r ∧ r < n := by
  obtain ⟨a, b, hs⟩ := id h
  have hn : n ≠ 0 := by omega
  have hd : divOk n := .inl ⟨hn, by omega⟩
  have x0 : atI [D.int a, .int b] 0 = some (.int a) := rfl
  have x1 : atI [D.int a, .int b] 1 = some (.int b) := rfl
  unfold m__law_pick mB__law_pick
  simp only [M.pure_bind, M.bind_assoc]
  by_cases ha : 0 < a
  · refine tr_ok (a := .int (a.fmod n)) (s := st.set i (.lst [.int (a.fdiv n), .int b])) ?_ ⟨Fr.set h _ _, _, rfl, Int.fmod_nonneg_of_pos a h0, Int.fmod_lt_of_pos a h0⟩
    rw [ix_ref hs x0]
    simp only [ii_gt, M.pure_bind, b_as, ha, decide_true, ↓reduceIte, M.bind_assoc, th_ret, r_ret]
    rw [ix_ref hs x0]
    simp only [i_int, ii_mod hn, M.pure_bind]
    rw [ix_ref hs x0]
    simp only [i_int, ii_div hd, M.pure_bind]
    rw [set_ref hs (j := 0) rfl]
    rfl
  · refine tr_ok (a := .int ((((((b * 44497 + 9973).fmod 2147483647) * ((b * 44497 + 9973).fmod 2147483647)).fmod 2147483399).fdiv 11).fmod n)) (s := st.set i (.lst [.int a, .int ((b * 44497 + 9973).fmod 2147483647)])) ?_ ⟨Fr.set h _ _, _, rfl, Int.fmod_nonneg_of_pos _ h0, Int.fmod_lt_of_pos _ h0⟩
    have b0 := Int.fmod_nonneg_of_pos (b * 44497 + 9973) (show (0 : Int) < 2147483647 by decide)
    have b1 := Int.fmod_lt_of_pos (b * 44497 + 9973) (show (0 : Int) < 2147483647 by decide)
    rw [ix_ref hs x0]
    simp only [ii_gt, M.pure_bind, b_as, ha, decide_false, Bool.false_eq_true, ↓reduceIte, M.bind_assoc, th_ret, r_ret]
    rw [ix_ref hs x1]
    simp only [ii_mul (mulSmall (i := b) (j := 44497) (by decide) (by decide)), M.pure_bind, ii_add, i_int, ii_mod (show (2147483647 : Int) ≠ 0 by decide)]
    rw [set_ref hs (j := 1) rfl]
    have hs2 : (st.set i (.lst ([D.int a, .int b].set 1 (.int ((b * 44497 + 9973).fmod 2147483647)))))[i]? = some (.lst [.int a, .int ((b * 44497 + 9973).fmod 2147483647)]) := List.getElem?_set_self (List.getElem?_eq_some_iff.mp hs).1
    rw [ix_ref hs2 rfl, ix_ref hs2 rfl]
    simp only [ii_mul (mulSmall (i := (b * 44497 + 9973).fmod 2147483647) (j := (b * 44497 + 9973).fmod 2147483647) (by omega) (by omega)), M.pure_bind, i_int, ii_mod (show (2147483399 : Int) ≠ 0 by decide), ii_div (.inl ⟨by decide, by decide⟩ : divOk 11), ii_mod hn]
    rfl
/-! ### plain data of a size -/
mutual
/-- nested n deep at most, nothing longer than B -/
def szD (B : Nat) : Nat → D → Bool
  | _, .non => true
  | _, .bl _ => true
  | _, .int _ => true
  | _, .str cs => decide (cs.length ≤ B)
  | n + 1, .lst xs => decide (xs.length ≤ B) && szDs B n xs
  | n + 1, .tup xs => decide (xs.length ≤ B) && szDs B n xs
  | _, _ => false
def szDs (B : Nat) : Nat → List D → Bool
  | _, [] => true
  | n, d :: ds => szD B n d && szDs B n ds
end
theorem szDs_iff {B n : Nat} : ∀ {ds : List D}, szDs B n ds = true ↔ ∀ d ∈ ds, szD B n d = true
  | [] => by simp [szDs]
  | d :: ds => by
    unfold szDs
    rw [Bool.and_eq_true, szDs_iff]
    simp
theorem sz_tup {B n : Nat} {xs : List D} : szD B (n + 1) (.tup xs) = true ↔ xs.length ≤ B ∧ ∀ d ∈ xs, szD B n d = true := by
  rw [show szD B (n + 1) (.tup xs) = (decide (xs.length ≤ B) && szDs B n xs) by rw [szD], Bool.and_eq_true, decide_eq_true_eq, szDs_iff]
theorem sz_lst {B n : Nat} {xs : List D} : szD B (n + 1) (.lst xs) = true ↔ xs.length ≤ B ∧ ∀ d ∈ xs, szD B n d = true := by
  rw [show szD B (n + 1) (.lst xs) = (decide (xs.length ≤ B) && szDs B n xs) by rw [szD], Bool.and_eq_true, decide_eq_true_eq, szDs_iff]
theorem sz_tup0 {B : Nat} {xs : List D} : szD B 0 (.tup xs) = false := by unfold szD; rfl
theorem sz_lst0 {B : Nat} {xs : List D} : szD B 0 (.lst xs) = false := by unfold szD; rfl
mutual
theorem sz_mono {B B' : Nat} (hB : B ≤ B') : ∀ {n n' : Nat} (d : D), n ≤ n' → szD B n d = true → szD B' n' d = true
  | _, _, .non, _, _ => by unfold szD; rfl
  | _, _, .bl _, _, _ => by unfold szD; rfl
  | _, _, .int _, _, _ => by unfold szD; rfl
  | _, _, .str cs, _, h => by
    unfold szD at h ⊢
    rw [decide_eq_true_eq] at h ⊢
    omega
  | 0, _, .lst xs, _, h => by rw [sz_lst0] at h; cases h
  | 0, _, .tup xs, _, h => by rw [sz_tup0] at h; cases h
  | n + 1, 0, .lst xs, hn, h => by omega
  | n + 1, 0, .tup xs, hn, h => by omega
  | n + 1, n' + 1, .lst xs, hn, h => by
    unfold szD at h ⊢
    rw [Bool.and_eq_true, decide_eq_true_eq] at h ⊢
    exact ⟨Nat.le_trans h.1 hB, szs_mono hB xs (by omega) h.2⟩
  | n + 1, n' + 1, .tup xs, hn, h => by
    unfold szD at h ⊢
    rw [Bool.and_eq_true, decide_eq_true_eq] at h ⊢
    exact ⟨Nat.le_trans h.1 hB, szs_mono hB xs (by omega) h.2⟩
  | n, _, .scr _, _, h => by cases n <;> (unfold szD at h; cases h)
  | n, _, .fn _, _, h => by cases n <;> (unfold szD at h; cases h)
  | n, _, .ref _, _, h => by cases n <;> (unfold szD at h; cases h)
  | n, _, .adr _, _, h => by cases n <;> (unfold szD at h; cases h)
theorem szs_mono {B B' : Nat} (hB : B ≤ B') : ∀ {n n' : Nat} (ds : List D), n ≤ n' → szDs B n ds = true → szDs B' n' ds = true
  | _, _, [], _, _ => by unfold szDs; rfl
  | n, n', d :: ds, hn, h => by
    unfold szDs at h ⊢
    rw [Bool.and_eq_true] at h ⊢
    exact ⟨sz_mono hB d hn h.1, szs_mono hB ds hn h.2⟩
end
mutual
theorem sz_ok {B : Nat} : ∀ {n : Nat} (d : D), szD B n d = true → okD n d = true
  | _, .non, _ => by unfold okD; rfl
  | _, .bl _, _ => by unfold okD; rfl
  | _, .int _, _ => by unfold okD; rfl
  | _, .str cs, _ => by unfold okD; rfl
  | 0, .lst xs, h => by rw [sz_lst0] at h; cases h
  | 0, .tup xs, h => by rw [sz_tup0] at h; cases h
  | n + 1, .lst xs, h => by
    unfold szD at h
    rw [Bool.and_eq_true] at h
    unfold okD
    exact szs_ok xs h.2
  | n + 1, .tup xs, h => by
    unfold szD at h
    rw [Bool.and_eq_true] at h
    unfold okD
    exact szs_ok xs h.2
  | n, .scr _, h => by cases n <;> (unfold szD at h; cases h)
  | n, .fn _, h => by cases n <;> (unfold szD at h; cases h)
  | n, .ref _, h => by cases n <;> (unfold szD at h; cases h)
  | n, .adr _, h => by cases n <;> (unfold szD at h; cases h)
theorem szs_ok {B : Nat} : ∀ {n : Nat} (ds : List D), szDs B n ds = true → okDs n ds = true
  | _, [], _ => by unfold okDs; rfl
  | n, d :: ds, h => by
    unfold szDs at h
    rw [Bool.and_eq_true] at h
    unfold okDs
    rw [Bool.and_eq_true]
    exact ⟨sz_ok d h.1, szs_ok ds h.2⟩
end
/-! ### short lists -/
theorem mk_tup {xs : List D} (h : xs.length ≤ 16777216) : mkTup xs = pure (.tup xs) := if_pos h
theorem f_lst {xs : List D} (h : xs.length ≤ 16777216) : fLst xs = pure (.lst xs) := if_pos h
theorem n_cel {xs : List D} {st : Store} (h : xs.length ≤ 16777216) : newC xs st = .ok (.ref st.length) (st ++ [.lst xs]) := if_pos h
/-- a comprehension whose parts are plain -/
theorem comp_pure {Pp : Type} {dec : D → Option Pp} {test : Pp → M Bool} {el : Pp → M D} {t : D → Bool} {e : D → D} : ∀ {ds : List D}, (∀ d ∈ ds, ∃ p, dec d = some p ∧ test p = pure (t d) ∧ (t d = true → el p = pure (e d))) → compM dec test el ds = pure ((ds.filter t).map e)
  | [], _ => rfl
  | d :: ds, h => by
    obtain ⟨p, h1, h2, h3⟩ := h d List.mem_cons_self
    have ih := comp_pure fun x hx => h x (List.mem_cons_of_mem _ hx)
    unfold compM
    rw [h1]
    show (nox (test p) >>= fun b => if b = true then nox (el p) >>= fun y => compM dec test el ds >>= fun r => pure (y :: r) else compM dec test el ds) = _
    rw [h2, nox_pure, M.pure_bind, ih]
    cases ht : t d with
    | true =>
      rw [if_pos rfl, h3 ht, nox_pure, M.pure_bind, M.pure_bind, List.filter_cons_of_pos ht]
      rfl
    | false => rw [if_neg Bool.false_ne_true, List.filter_cons_of_neg (by rw [ht]; exact Bool.false_ne_true)]
/-- .. whose parts draw -/
theorem comp_tr {Pp : Type} {dec : D → Option Pp} {el : Pp → M D} {i : Nat} {Pr : D → Prop} : ∀ {ds : List D} {st : Store}, Gs i st → (∀ d ∈ ds, ∃ p, dec d = some p ∧ ∀ s, Fr i st s → Tr (el p) s fun x s' => Fr i s s' ∧ Pr x) → Tr (compM dec (fun _ => pure true) el ds) st fun xs s => Fr i st s ∧ xs.length = ds.length ∧ ∀ x ∈ xs, Pr x
  | [], st, h, _ => tr_pure ⟨Fr.refl h, rfl, fun _ hx => nomatch hx⟩
  | d :: ds, st, h, hd => by
    obtain ⟨p, h1, h2⟩ := hd d List.mem_cons_self
    unfold compM
    rw [h1]
    show Tr (nox (pure true) >>= fun b => if b = true then nox (el p) >>= fun y => compM dec (fun _ => pure true) el ds >>= fun r => pure (y :: r) else compM dec (fun _ => pure true) el ds) st _
    rw [nox_pure, M.pure_bind, if_pos rfl]
    refine tr_then (tr_nox (h2 st (Fr.refl h))) fun y s1 ⟨f1, py⟩ => tr_then (comp_tr (Pr := Pr) f1.src fun x hx => ?_) fun r s2 ⟨f2, hl, hr⟩ => tr_pure ⟨f1.trans f2, by rw [List.length_cons, List.length_cons, hl], fun x hx => ?_⟩
    · obtain ⟨q, q1, q2⟩ := hd x (List.mem_cons_of_mem _ hx)
      exact ⟨q, q1, fun s hs => q2 s (f1.trans hs)⟩
    · rcases List.mem_cons.mp hx with e | hx
      · rw [e]; exact py
      · exact hr x hx
end My
/-! KP2: drawn values. -/
namespace My
open PySem PySem.Spec PyProof.Rows L2 DL DH

theorem at_nat {α : Type} {xs : List α} {k : Nat} {d : α} (h : xs[k]? = some d) : atI xs (k : Int) = some d := by
  have hk : k < xs.length := (List.getElem?_eq_some_iff.mp h).1
  have : ixN xs.length (k : Int) = some k := by
    unfold ixN
    rw [if_pos (by omega), if_pos (by omega)]
    rfl
  unfold atI
  rw [this]
  exact h
theorem at_int {α : Type} {xs : List α} {r : Int} (h0 : 0 ≤ r) (h1 : r < xs.length) : ∃ (k : Nat) (d : α), r = k ∧ k < xs.length ∧ xs[k]? = some d ∧ atI xs r = some d := by
  obtain ⟨k, rfl⟩ := Int.eq_ofNat_of_zero_le h0
  have hk : k < xs.length := by omega
  exact ⟨k, xs[k], rfl, hk, List.getElem?_eq_getElem hk, at_nat (List.getElem?_eq_getElem hk)⟩
theorem ix_lst {xs : List D} {k : Int} {d : D} (h : atI xs k = some d) : dIndex (.lst xs) (.int k) = pure d := by
  show (match atI xs k with | some d => pure d | none => M.stuck : M D) = _
  rw [h]
theorem ix_tup {xs : List D} {k : Int} {d : D} (h : atI xs k = some d) : dIndex (.tup xs) (.int k) = pure d := by
  show (match atI xs k with | some d => pure d | none => M.stuck : M D) = _
  rw [h]
theorem ix_str {xs : List Nat} {k : Int} {c : Nat} (h : atI xs k = some c) : dIndex (.str xs) (.int k) = pure (.str [c]) := by
  show (match atI xs k with | some d => pure (.str [d]) | none => M.stuck : M D) = _
  rw [h]
theorem chosen_tr {st : Store} {i : Nat} {xs : List D} (h : Gs i st) (h0 : xs ≠ []) (h1 : xs.length < 1073741824) : Tr (m__law_chosen (.ref i) (.lst xs)) st fun d s => Fr i st s ∧ d ∈ xs := by
  unfold m__law_chosen mB__law_chosen
  simp only [M.pure_bind, M.bind_assoc, l_len, m2, r_ret]
  have hp : 0 < xs.length := List.length_pos_iff.mpr h0
  refine tr_then (pick_tr h (by omega) (by omega)) fun d s ⟨f, r, e, r0, r1⟩ => ?_
  subst e
  obtain ⟨k, d, rfl, hk, hd, ha⟩ := at_int r0 r1
  rw [ix_lst ha, M.pure_bind]
  exact tr_pure ⟨f, List.mem_of_getElem? hd⟩
/-- the simple values -/
def simples : List D := [.non, .bl true, .bl false, .int 0, .int 1, .int 2, .int (-3), .str [], .str [43], .str [45, 48], .tup [], .lst [], .tup [.str [45, 45], .str [43, 48]], .tup [.int 0, .int 1], .tup [.tup [.int 1]]]
theorem neg_i (i : Int) : dNeg (.int i) = pure (.int (-i)) := rfl
theorem rng_1 {n : Int} (h : n < 16777216 ∧ -16777216 ≤ n) : rng1 (.int n) = pure (upFrom 0 n.toNat) := if_pos h
theorem w_lst (xs : List D) : asW (.lst xs) = pure xs := rfl
theorem w_tup (xs : List D) : asW (.tup xs) = pure xs := rfl
theorem w_str (cs : List Nat) : asW (.str cs) = pure (cs.map fun c => .str [c]) := rfl
theorem tup_lst (xs : List D) : dTuple (.lst xs) = pure (.tup xs) := rfl
theorem tup_tup (xs : List D) : dTuple (.tup xs) = pure (.tup xs) := rfl
theorem eq_ii (i j : Int) : dEq (.int i) (.int j) = pure (.bl (decide (i = j))) := by
  have e : dEq (.int i) (.int j) = pure (.bl (eqd (.int i) (.int j))) := if_pos ⟨by unfold okD; rfl, by unfold okD; rfl⟩
  rw [e]
  unfold eqd
  rfl
theorem up_mem {lo : Int} {n : Nat} {d : D} (h : d ∈ upFrom lo n) : ∃ k : Nat, k < n ∧ d = .int (lo + k) := by
  unfold upFrom at h
  obtain ⟨k, hk, rfl⟩ := List.mem_map.mp h
  exact ⟨k, List.mem_range.mp hk, rfl⟩
theorem simple_sz : ∀ d ∈ simples, szD 1000 3 d = true := by
  intro d hd
  simp only [simples, List.mem_cons, List.not_mem_nil, or_false] at hd
  rcases hd with rfl | rfl | rfl | rfl | rfl | rfl | rfl | rfl | rfl | rfl | rfl | rfl | rfl | rfl | rfl <;> rfl
theorem any_body {i : Nat} {g : D → D → M D} {deep : Int} {m : Nat} {st : Store} (h : Gs i st) (hm : 2 ≤ m) (hg : 1 ≤ deep → ∀ s, Gs i s → Tr (g (.ref i) (.int (deep - 1))) s fun d s' => Fr i s s' ∧ szD 1000 m d = true) :
    Tr (mB__law_any_value g (.ref i) (.int deep) >>= retM) st fun d s => Fr i st s ∧ szD 1000 (m + 1) d = true := by
  unfold mB__law_any_value
  simp only [M.pure_bind, M.bind_assoc, m2, r_ret, neg_i, mk_tup (xs := []) (by decide), f_lst (xs := []) (by decide), mk_tup (xs := [D.str [45, 45], D.str [43, 48]]) (by decide), mk_tup (xs := [D.int 0, D.int 1]) (by decide), mk_tup (xs := [D.int 1]) (by decide), mk_tup (xs := [D.tup [D.int 1]]) (by decide)]
  rw [f_lst (by decide), M.pure_bind]
  refine tr_then (pick_tr h (by decide) (by decide)) fun d s ⟨f, w, e, w0, w1⟩ => ?_
  subst e
  simp only [bOr, ii_lt, M.pure_bind, M.bind_assoc, b_as]
  have fin : Tr (m__law_chosen (.ref i) (.lst simples)) s fun d s' => Fr i s s' ∧ szD 1000 (m + 1) d = true := tr_mono (chosen_tr f.src (by decide) (by decide)) fun d s' ⟨f1, hd⟩ => ⟨f1, sz_mono (Nat.le_refl _) d (by omega) (simple_sz d hd)⟩
  by_cases hlow : deep < 1
  · simp only [hlow, decide_true, ↓reduceIte, M.pure_bind, M.bind_assoc, th_ret, r_ret]
    refine tr_then fin fun d s' ⟨f1, hd⟩ => tr_pure ⟨f.trans f1, hd⟩
  · by_cases hw : w < 5
    · simp only [hlow, hw, decide_true, decide_false, Bool.false_eq_true, ↓reduceIte, M.pure_bind, M.bind_assoc, th_ret, r_ret]
      refine tr_then fin fun d s' ⟨f1, hd⟩ => tr_pure ⟨f.trans f1, hd⟩
    · simp only [hlow, hw, decide_false, Bool.false_eq_true, ↓reduceIte, M.pure_bind, M.bind_assoc, th_ret, r_ret]
      refine tr_then (pick_tr f.src (by decide) (by decide)) fun d s2 ⟨f2, r, e, r0, r1⟩ => ?_
      subst e
      rw [rng_1 ⟨by omega, by omega⟩, M.pure_bind]
      refine tr_then (comp_tr (i := i) (Pr := fun d => szD 1000 m d = true) f2.src fun d _ => ⟨d, rfl, fun s3 f3 => ?_⟩) fun xs s3 ⟨f3, hl, hx⟩ => ?_
      · show Tr (dSub (.int deep) (.int 1) >>= fun x => g (.ref i) x) s3 _
        rw [ii_sub, M.pure_bind]
        exact hg (by omega) s3 f3.src
      · rw [upFrom_len] at hl
        have hlen : xs.length ≤ 1000 := by omega
        rw [f_lst (by omega), M.pure_bind, eq_ii, M.pure_bind, b_as, M.pure_bind]
        have ff := (f.trans f2).trans f3
        by_cases h5 : w = 5
        · simp only [h5, decide_true, ↓reduceIte, M.pure_bind]
          exact tr_pure ⟨ff, sz_lst.mpr ⟨hlen, hx⟩⟩
        · simp only [h5, decide_false, Bool.false_eq_true, ↓reduceIte, M.pure_bind, tup_lst]
          exact tr_pure ⟨ff, sz_tup.mpr ⟨hlen, hx⟩⟩
theorem any_tr {i : Nat} : ∀ (n : Nat) (deep : Int) (st : Store), Gs i st → deep ≤ n → Tr (m__law_any_value (n + 1) (.ref i) (.int deep)) st fun d s => Fr i st s ∧ szD 1000 (n + 3) d = true
  | 0, deep, st, h, hd => any_body (m := 2) h (by omega) fun h1 => by omega
  | n + 1, deep, st, h, hd => any_body (m := n + 3) h (by omega) fun h1 s hs => any_tr n (deep - 1) s hs (by omega)
end My
/-! KP3: variants. -/
namespace My
open PySem PySem.Spec PyProof.Rows L2 DL DH

theorem tr_run {α β : Type} {m : M α} {f : α → M β} {st s : Store} {a : α} {R : β → Store → Prop} (e : m st = .ok a s) (h : Tr (f a) s R) : Tr (m >>= f) st R := tr_bind (tr_ok e h)
section
variable {st : Store} {k : Nat} {xs : List D}
theorem rd_len (h : st[k]? = some (.lst xs)) : dLen (.ref k) st = .ok (.int xs.length) st := by
  show (rdC k >>= fun xs => pure (D.int xs.length)) st = _
  rw [bind_ok (rdC_ok h)]
  rfl
theorem rd_ix {r : Int} {d : D} (h : st[k]? = some (.lst xs)) (h2 : atI xs r = some d) : dIndex (.ref k) (.int r) st = .ok d st := by
  show (match st[k]? with | some (.lst xs) => (match atI xs r with | some d => .ok d st | none => .stuck) | _ => .stuck : R D) = _
  rw [h]
  show (match atI xs r with | some d => .ok d st | none => .stuck : R D) = _
  rw [h2]
theorem rd_sl {lo hi : Option Int} (h : st[k]? = some (.lst xs)) : dSlice (.ref k) lo hi st = .ok (.lst (cutL xs lo hi)) st := by
  show (match st[k]? with | some (.lst xs) => .ok (.lst (cutL xs lo hi)) st | _ => .stuck : R D) = _
  rw [h]
theorem rd_tup (h : st[k]? = some (.lst xs)) : dTuple (.ref k) st = .ok (.tup xs) st := by
  show (rdC k >>= fun xs => pure (D.tup xs)) st = _
  rw [bind_ok (rdC_ok h)]
  rfl
theorem rd_frz (h : st[k]? = some (.lst xs)) : frz (.ref k) st = .ok (.lst xs) (st.set k .dead) := by
  show (rdC k >>= fun xs => wrC k .dead >>= fun _ => pure (D.lst xs)) st = _
  rw [bind_ok (rdC_ok h)]
  rfl
theorem rd_nil (h : st[k]? = some (.lst xs)) (ho : okDs 59 xs = true) : dEqC (.ref k) (.lst []) st = .ok (.bl xs.isEmpty) st := by
  show ((rdC k >>= fun xs => pure (D.lst xs)) >>= fun x => pk (.lst []) >>= fun y => dEq x y) st = _
  rw [M.bind_assoc, bind_ok (rdC_ok h), M.pure_bind]
  show (dEq (.lst xs) (.lst [])) st = _
  have e : dEq (.lst xs) (.lst []) = pure (.bl (eqd (.lst xs) (.lst []))) := if_pos ⟨by unfold okD; exact ho, by unfold okD; unfold okDs; rfl⟩
  rw [e]
  have e2 : eqd (.lst xs) (.lst []) = xs.isEmpty := by
    unfold eqd
    cases xs with
    | nil => unfold eqds; rfl
    | cons _ _ => unfold eqds; rfl
  rw [e2]
  rfl
theorem rd_set {r : Int} {j : Nat} {v : D} (h : st[k]? = some (.lst xs)) (h2 : ixN xs.length r = some j) : setC (.ref k) (.int r) v st = .ok () (st.set k (.lst (xs.set j v))) := by
  show (rdC k >>= fun xs => match ixN xs.length r with | some j => wrC k (.lst (xs.set j v)) | none => M.stuck) st = _
  rw [bind_ok (rdC_ok h), h2]
  rfl
end
theorem list_new {st : Store} {xs : List D} (h : xs.length ≤ 16777216) : dList newC (.tup xs) st = .ok (.ref st.length) (st ++ [.lst xs]) := n_cel h
theorem Fr.push {i : Nat} {st : Store} (h : Gs i st) (c : Cell) : Fr i st (st ++ [c]) :=
  ⟨by rw [List.length_append]; omega, fun j hj _ => List.getElem?_append_left hj, let ⟨a, b, q⟩ := h; ⟨a, b, by rw [List.getElem?_append_left h.lt]; exact q⟩⟩
theorem Fr.wr {i k : Nat} {st0 st : Store} (h : Fr i st0 st) (hk : st0.length ≤ k) (hi : i < st0.length) (c : Cell) : Fr i st0 (st.set k c) :=
  ⟨by rw [List.length_set]; exact h.len, fun j hj ne => by rw [List.getElem?_set_ne (by omega)]; exact h.keep j hj ne, let ⟨a, b, q⟩ := h.src; ⟨a, b, by rw [List.getElem?_set_ne (by omega)]; exact q⟩⟩
theorem add_ll {xs ys : List D} (h : xs.length + ys.length ≤ 16777216) : dAdd (.lst xs) (.lst ys) = pure (.lst (xs ++ ys)) := if_pos h
theorem add_tt {xs ys : List D} (h : xs.length + ys.length ≤ 16777216) : dAdd (.tup xs) (.tup ys) = pure (.tup (xs ++ ys)) := if_pos h
theorem as_i (i : Int) : asI (.int i) = pure (some i) := rfl
theorem isi_tup (xs : List D) : mIsi .tuple (.tup xs) = pure (.bl true) := rfl
theorem mk_t1 (a : D) : mkTup [a] = pure (.tup [a]) := if_pos (by rw [List.length_singleton]; decide)
theorem f_l0 : fLst [] = pure (.lst []) := if_pos (by decide)
theorem isi_no {B n : Nat} {d : D} (h : szD B n d = true) : (∃ ys, d = .tup ys) ∨ mIsi .tuple d = pure (.bl false) := by
  cases d with
  | tup ys => exact .inl ⟨ys, rfl⟩
  | non => exact .inr rfl
  | bl _ => exact .inr rfl
  | int _ => exact .inr rfl
  | str _ => exact .inr rfl
  | lst _ => exact .inr rfl
  | scr _ => cases n <;> (unfold szD at h; cases h)
  | fn _ => cases n <;> (unfold szD at h; cases h)
  | ref _ => cases n <;> (unfold szD at h; cases h)
  | adr _ => cases n <;> (unfold szD at h; cases h)
theorem rev_l (xs : List D) : dRevL fLst (.lst xs) = fLst xs.reverse := rfl
/-- what is put in -/
def nears : List D := [.non, .bl true, .bl false, .int 0, .int 1, .int (-1), .int 2, .int 4, .str [], .str [43], .str [45], .str [48], .str [63], .str [120], .str [43, 45], .tup [], .tup [.str [45]], .lst [.int 0], .int 1000000000000000000000000000001]
theorem near_sz : ∀ d ∈ nears, szD 1000 3 d = true := by
  intro d hd
  simp only [nears, List.mem_cons, List.not_mem_nil, or_false] at hd
  rcases hd with rfl | rfl | rfl | rfl | rfl | rfl | rfl | rfl | rfl | rfl | rfl | rfl | rfl | rfl | rfl | rfl | rfl | rfl | rfl <;> rfl
theorem pow30 : dPow (.int 10) (.int 30) = pure (.int 1000000000000000000000000000000) := rfl
theorem any6 {i : Nat} {deep : Int} {st : Store} (h : Gs i st) (hd : deep ≤ 5) : Tr (m__law_any_value 6 (.ref i) (.int deep)) st fun d s => Fr i st s ∧ szD 1000 8 d = true := any_tr 5 deep st h hd
theorem and_c {B n : Nat} {d : D} {deep w : Int} (h : szD B n d = true) : ∃ c : Bool, bAnd (mIsi .tuple d >>= asB) (bAnd (dGt (.int deep) (.int 0) >>= asB) (dGt (.int w) (.int 2) >>= asB)) = pure c ∧ (c = true → 1 ≤ deep ∧ ∃ ys, d = .tup ys) := by
  rcases isi_no h with ⟨ys, rfl⟩ | e
  · refine ⟨decide (0 < deep) && decide (2 < w), ?_, fun hc => ⟨?_, ys, rfl⟩⟩
    · unfold bAnd
      rw [isi_tup, M.pure_bind, b_as, M.pure_bind, if_pos rfl, ii_gt, ii_gt, M.pure_bind, M.pure_bind, b_as, b_as, M.pure_bind]
      cases decide (0 < deep) <;> rfl
    · rw [Bool.and_eq_true, decide_eq_true_eq] at hc
      omega
  · refine ⟨false, ?_, fun hc => by cases hc⟩
    unfold bAnd
    rw [e, M.pure_bind, b_as, M.pure_bind]
    rfl
theorem var_body {i : Nat} {g : D → D → D → M D} {deep : Int} {B n : Nat} {xs : List D} {st : Store} (h : Gs i st) (hB : B ≤ 100000) (hn : n + 9 ≤ 59) (hx : szD B (n + 1) (.tup xs) = true)
    (hg : ∀ ys s, 1 ≤ deep → Gs i s → .tup ys ∈ xs → Tr (g (.ref i) (.tup ys) (.int (deep - 1))) s fun d s' => Fr i s s' ∧ szD (3 * B + 1000) (n + 8) d = true) :
    Tr (mB__law_variant g (.ref i) (.tup xs) (.int deep) >>= retM) st fun d s => Fr i st s ∧ szD (3 * B + 1000) (n + 9) d = true := by
  obtain ⟨hlen, hit⟩ := sz_tup.mp hx
  have hB' : B ≤ 3 * B + 1000 := by omega
  have hit' : ∀ d ∈ xs, szD (3 * B + 1000) (n + 8) d = true := fun d hd => sz_mono hB' d (by omega) (hit d hd)
  have fin : ∀ {zs : List D} {s : Store}, Fr i st s → zs.length ≤ 3 * B + 1000 → (∀ d ∈ zs, szD (3 * B + 1000) (n + 8) d = true) → Tr (pure (.tup zs) : M D) s fun d s => Fr i st s ∧ szD (3 * B + 1000) (n + 9) d = true := fun f h1 h2 => tr_pure ⟨f, sz_tup.mpr ⟨h1, h2⟩⟩
  have cl := fun lo hi => cutL_len xs lo hi
  have cm : ∀ {lo hi : Option Int}, ∀ d ∈ cutL xs lo hi, szD (3 * B + 1000) (n + 8) d = true := fun d hd => hit' d (cutL_mem hd)
  have app : ∀ {us vs : List D}, (∀ d ∈ us, szD (3 * B + 1000) (n + 8) d = true) → (∀ d ∈ vs, szD (3 * B + 1000) (n + 8) d = true) → ∀ d ∈ us ++ vs, szD (3 * B + 1000) (n + 8) d = true := fun h1 h2 d hd => (List.mem_append.mp hd).elim (h1 d) (h2 d)
  have one : ∀ {a : D}, szD (3 * B + 1000) (n + 8) a = true → ∀ d ∈ [a], szD (3 * B + 1000) (n + 8) d = true := fun h d hd => by rw [List.mem_singleton.mp hd]; exact h
  unfold mB__law_variant
  simp (config := {implicitDefEqProofs := false}) only [M.pure_bind, M.bind_assoc, m2, m3, r_ret]
  refine tr_run (list_new (by omega)) ?_
  rw [f_l0, M.pure_bind]
  have f0 : Fr i st (st ++ [.lst xs]) := Fr.push h _
  have hk0 : (st ++ [Cell.lst xs])[st.length]? = some (.lst xs) := List.getElem?_concat_length
  have ne : st.length ≠ i := by have := h.lt; omega
  refine tr_run (rd_nil hk0 (szs_ok (B := B) xs (szDs_iff.mpr fun d hd => sz_mono (Nat.le_refl _) d (by omega) (hit d hd)))) ?_
  rw [b_as, M.pure_bind]
  cases he : xs.isEmpty with
  | true =>
    rw [if_pos rfl]
    simp only [M.bind_assoc]
    refine tr_then (any6 f0.src (by decide)) fun d s ⟨f1, hd⟩ => ?_
    simp only [mk_t1, M.pure_bind, th_ret, r_ret]
    exact fin (f0.trans f1) (by rw [List.length_singleton]; omega) (one (sz_mono (by omega) d (by omega) hd))
  | false =>
    have hpos : 0 < xs.length := List.length_pos_iff.mpr fun e => by rw [e] at he; cases he
    rw [if_neg Bool.false_ne_true]
    simp only [M.bind_assoc]
    refine tr_run (rd_len hk0) ?_
    refine tr_then (pick_tr f0.src (by omega) (by omega)) fun d s1 ⟨f1, r, e, r0, r1⟩ => ?_
    subst e
    refine tr_then (pick_tr f1.src (by decide) (by decide)) fun d s ⟨f2, w, e, w0, w1⟩ => ?_
    subst e
    have ff := (f0.trans f1).trans f2
    have hk : s[st.length]? = some (.lst xs) := (f1.trans f2).at hk0 ne
    obtain ⟨p, inner, rfl, hp, hd, ha⟩ := at_int r0 r1
    have hin : inner ∈ xs := List.mem_of_getElem? hd
    have hsx : ixN xs.length (p : Int) = some p := by
      unfold ixN
      rw [if_pos (by omega), if_pos (by omega)]
      rfl
    refine tr_run (rd_ix hk ha) ?_
    obtain ⟨c, ec, hc⟩ := and_c (deep := deep) (w := w) (hit inner hin)
    rw [ec, M.pure_bind]
    simp (config := {implicitDefEqProofs := false}) only [ii_add, ii_sub, as_i, eq_ii, ii_lt, M.pure_bind, M.bind_assoc, b_as, mk_t1, th_ret, r_ret, th_next]
    have c1 := fun lo hi => Nat.le_trans (cutL_len xs lo hi) hlen
    have last : ∀ {s3 : Store} {d : D}, Fr i s s3 → szD (3 * B + 1000) (n + 8) d = true → Tr (setC (.ref st.length) (.int p) d >>= fun _ => dTuple (.ref st.length) >>= fun x => pure x) s3 fun d s => Fr i st s ∧ szD (3 * B + 1000) (n + 9) d = true := fun {s3 d} f3 hd3 => by
      have hk3 := f3.at hk ne
      refine tr_run (rd_set hk3 hsx) ?_
      refine tr_run (rd_tup (List.getElem?_set_self (List.getElem?_eq_some_iff.mp hk3).1)) ?_
      refine fin (Fr.wr (ff.trans f3) (Nat.le_refl _) h.lt _) (by rw [List.length_set]; omega) fun e he => ?_
      rcases List.mem_or_eq_of_mem_set he with q | q
      · exact hit' e q
      · rw [q]; exact hd3
    cases c with
    | true =>
      obtain ⟨h1, ys, rfl⟩ := hc rfl
      rw [if_pos rfl]
      simp (config := {implicitDefEqProofs := false}) only [M.bind_assoc, M.pure_bind, r_ret]
      refine tr_run (rd_sl hk) ?_
      rw [tup_lst, M.pure_bind]
      refine tr_then (hg ys s h1 ff.src hin) fun d s3 ⟨f3, hd3⟩ => ?_
      have l1 := c1 none (some (p : Int))
      have l2 := c1 (some ((p : Int) + 1)) none
      rw [add_tt (by rw [List.length_singleton]; omega), M.pure_bind]
      refine tr_run (rd_sl (f3.at hk ne)) ?_
      rw [tup_lst, M.pure_bind, add_tt (by rw [List.length_append, List.length_singleton]; omega), M.pure_bind]
      exact fin (ff.trans f3) (by rw [List.length_append, List.length_append, List.length_singleton]; omega) (app (app cm (one hd3)) cm)
    | false =>
      rw [if_neg Bool.false_ne_true]
      by_cases hw : w = 0
      · rw [if_pos (decide_eq_true hw)]
        simp (config := {implicitDefEqProofs := false}) only [M.bind_assoc, M.pure_bind, r_ret]
        have l1 := c1 none (some (p : Int))
        have l2 := c1 (some ((p : Int) + 1)) none
        refine tr_run (rd_sl hk) ?_
        refine tr_run (rd_sl hk) ?_
        rw [add_ll (by omega), M.pure_bind, tup_lst, M.pure_bind]
        exact fin ff (by rw [List.length_append]; omega) (app cm cm)
      rw [if_neg (by rw [decide_eq_true_eq]; exact hw)]
      clear hw
      by_cases hw : w = 1
      · rw [if_pos (decide_eq_true hw)]
        simp (config := {implicitDefEqProofs := false}) only [M.bind_assoc, M.pure_bind, r_ret]
        have l1 := c1 none (some ((p : Int) + 1))
        have l2 := c1 (some (p : Int)) none
        refine tr_run (rd_sl hk) ?_
        refine tr_run (rd_sl hk) ?_
        rw [add_ll (by omega), M.pure_bind, tup_lst, M.pure_bind]
        exact fin ff (by rw [List.length_append]; omega) (app cm cm)
      rw [if_neg (by rw [decide_eq_true_eq]; exact hw)]
      clear hw
      by_cases hw : w = 2
      · rw [if_pos (decide_eq_true hw)]
        simp (config := {implicitDefEqProofs := false}) only [M.bind_assoc, M.pure_bind, r_ret]
        have l1 := c1 none (some (p : Int))
        have l2 := c1 (some (p : Int)) (some ((p : Int) + 2))
        have l3 := c1 (some ((p : Int) + 2)) none
        refine tr_run (rd_sl hk) ?_
        refine tr_run (rd_sl hk) ?_
        rw [rev_l, f_lst (by rw [List.length_reverse]; omega), M.pure_bind, add_ll (by rw [List.length_reverse]; omega), M.pure_bind]
        refine tr_run (rd_sl hk) ?_
        rw [add_ll (by rw [List.length_append, List.length_reverse]; omega), M.pure_bind, tup_lst, M.pure_bind]
        exact fin ff (by rw [List.length_append, List.length_append, List.length_reverse]; omega) (app (app cm fun d hd => cm d (List.mem_reverse.mp hd)) cm)
      rw [if_neg (by rw [decide_eq_true_eq]; exact hw)]
      clear hw
      by_cases hw : w = 3
      · rw [if_pos (decide_eq_true hw)]
        simp (config := {implicitDefEqProofs := false}) only [M.bind_assoc, M.pure_bind, r_ret]
        refine tr_run (rd_frz hk) ?_
        exact tr_pure ⟨Fr.wr ff (Nat.le_refl _) h.lt _, sz_lst.mpr ⟨by omega, hit'⟩⟩
      rw [if_neg (by rw [decide_eq_true_eq]; exact hw)]
      clear hw
      simp (config := {implicitDefEqProofs := false}) only [M.bind_assoc]
      by_cases hw : w < 6
      · rw [if_pos (decide_eq_true hw)]
        simp (config := {implicitDefEqProofs := false}) only [M.bind_assoc, M.pure_bind, r_ret, th_next]
        refine tr_then (any6 ff.src (by decide)) fun d s3 ⟨f3, hd3⟩ => ?_
        exact last f3 (sz_mono (by omega) d (by omega) hd3)
      rw [if_neg (by rw [decide_eq_true_eq]; exact hw)]
      clear hw
      rw [neg_i]
      simp (config := {implicitDefEqProofs := false}) only [M.bind_assoc, M.pure_bind, r_ret, th_next, pow30, ii_add, mk_tup (xs := []) (by decide), f_lst (xs := [D.int 0]) (by decide)]
      rw [f_lst (by decide), M.pure_bind]
      refine tr_then (chosen_tr ff.src (by decide) (by decide)) fun d s3 ⟨f3, hd3⟩ => ?_
      exact last f3 (sz_mono (by omega) d (by omega) (near_sz d hd3))
theorem var_tr {i : Nat} {B : Nat} (hB : B ≤ 30000) : ∀ (k n : Nat) (deep : Int) (xs : List D) (st : Store), Gs i st → deep ≤ k → n + 9 ≤ 59 → szD B (n + 1) (.tup xs) = true → Tr (m__law_variant (k + 1) (.ref i) (.tup xs) (.int deep)) st fun d s => Fr i st s ∧ szD (3 * B + 1000) (n + 9) d = true
  | 0, n, deep, xs, st, h, hd, hn, hx => var_body h (by omega) hn hx fun ys s h1 => by omega
  | k + 1, 0, deep, xs, st, h, hd, hn, hx => var_body h (by omega) hn hx fun ys s h1 hs hy => by
    have := (sz_tup.mp hx).2 _ hy
    rw [sz_tup0] at this
    cases this
  | k + 1, n + 1, deep, xs, st, h, hd, hn, hx => var_body h (by omega) hn hx fun ys s h1 hs hy => var_tr hB k n (deep - 1) ys s hs (by omega) (by omega) ((sz_tup.mp hx).2 _ hy)
end My
/-! KP4: the source, the drawn model. -/
namespace My
open PySem PySem.Spec PyProof.Rows L2 DL DH
open TL (joinL)

theorem loop_ix {Pp S : Type} {dec : D → Option Pp} {body : S → Pp → M (Fl S S)} {I : Nat → S → Store → Prop} : ∀ {ds : List D} {k : Nat} {s : S} {st : Store}, (∀ j d, ds[j]? = some d → ∃ p, dec d = some p ∧ ∀ s st, I (k + j) s st → Tr (body s p) st fun f st' => ∃ s', f = .next s' ∧ I (k + j + 1) s' st') → I k s st → Tr (loopM dec body ds s) st fun f st' => ∃ s', f = .next s' ∧ I (k + ds.length) s' st'
  | [], k, s, st, _, h => tr_pure ⟨s, rfl, h⟩
  | d :: ds, k, s, st, hd, h => by
    obtain ⟨p, h1, h2⟩ := hd 0 d rfl
    unfold loopM
    rw [h1]
    refine tr_then (h2 s st h) fun f st1 ⟨s1, e, h3⟩ => ?_
    subst e
    have := loop_ix (k := k + 1) (ds := ds) (s := s1) (st := st1) (I := I) (dec := dec) (body := body) (fun j d hj => by
      obtain ⟨q, q1, q2⟩ := hd (j + 1) d hj
      refine ⟨q, q1, fun s st hs => ?_⟩
      have e : k + 1 + j = k + (j + 1) := by omega
      rw [e] at hs ⊢
      exact q2 s st hs) h3
    refine tr_mono this fun f st' ⟨s', e, h4⟩ => ⟨s', e, ?_⟩
    rw [List.length_cons, show k + (ds.length + 1) = k + 1 + ds.length by omega]
    exact h4
/-- a loop whose turns are alike -/
theorem loop_tr {Pp S : Type} {dec : D → Option Pp} {body : S → Pp → M (Fl S S)} {I : S → Store → Prop} {ds : List D} {s : S} {st : Store} (hd : ∀ d ∈ ds, ∃ p, dec d = some p ∧ ∀ s st, I s st → Tr (body s p) st fun f st' => ∃ s', f = .next s' ∧ I s' st') (h : I s st) : Tr (loopM dec body ds s) st fun f st' => ∃ s', f = .next s' ∧ I s' st' :=
  loop_ix (I := fun _ => I) (k := 0) (fun j d hj => hd d (List.mem_of_getElem? hj)) h
theorem pow18 : dPow (.int 10) (.int 18) = pure (.int 1000000000000000000) := rfl
theorem source_tr {ns : List Int} {k : Nat} {st : Store} (hk : k < 64) : Tr (m__law_source (.scr ns) (.int k)) st fun d s => ∃ a b : Int, d = .ref st.length ∧ s = st ++ [.lst [.int a, .int b]] := by
  unfold m__law_source mB__law_source
  simp (config := {implicitDefEqProofs := false}) only [M.pure_bind, M.bind_assoc, c_len, ii_gt, b_as, pow18, ii_mul (mulSmall (i := 60919) (j := (k : Int)) (by omega) (by omega)), ii_mul (mulSmall (i := 2) (j := (k : Int)) (by omega) (by omega))]
  have first : ∃ number : Int, (if decide ((k : Int) < ns.length) = true then dIndex (.scr ns) (.int k) >>= fun x => dInt x >>= fun v => pure (.next v) else pure (.next (.int 0)) : M (Fl D Empty)) = pure (.next (.int number)) := by
    by_cases hc : (k : Int) < ns.length
    · rw [if_pos (decide_eq_true hc)]
      have hk' : k < ns.length := by omega
      refine ⟨ns[k], ?_⟩
      have e : dIndex (.scr ns) (.int k) = pure (.int ns[k]) := by
        show (match atI ns (k : Int) with | some n => pure (.int n) | none => M.stuck : M D) = _
        rw [at_nat (List.getElem?_eq_getElem hk')]
      rw [e, M.pure_bind, i_int, M.pure_bind]
    · rw [if_neg (by rw [decide_eq_true_eq]; exact hc)]
      exact ⟨0, rfl⟩
  obtain ⟨number, e⟩ := first
  rw [e, M.pure_bind, th_next]
  have b0 := Int.fmod_nonneg_of_pos (number * 16807 + 60919 * k + 31) (show (0 : Int) < 2147481173 by decide)
  have b1 := Int.fmod_lt_of_pos (number * 16807 + 60919 * k + 31) (show (0 : Int) < 2147481173 by decide)
  simp (config := {implicitDefEqProofs := false}) only [M.pure_bind, M.bind_assoc, ii_mul (mulSmall (i := number) (j := 16807) (by decide) (by decide)), ii_add, ii_mod (show (2147481173 : Int) ≠ 0 by decide), ii_mul (mulSmall (i := (number * 16807 + 60919 * k + 31).fmod 2147481173) (j := (number * 16807 + 60919 * k + 31).fmod 2147481173) (by omega) (by omega)), ii_mod (show (2147481151 : Int) ≠ 0 by decide), ii_ge, b_as]
  by_cases hb : (1000000000000000000 : Int) ≤ number
  · rw [if_pos (decide_eq_true hb), M.pure_bind]
    exact tr_run (n_cel (show (2 : Nat) ≤ 16777216 by decide)) (tr_pure ⟨_, _, rfl, rfl⟩)
  · rw [if_neg (by rw [decide_eq_true_eq]; exact hb), M.pure_bind]
    exact tr_run (n_cel (show (2 : Nat) ≤ 16777216 by decide)) (tr_pure ⟨_, _, rfl, rfl⟩)
/-- a model's rows: m of m signs, few of them hidden -/
structure MOk (h m : Nat) (T : List (List Nat)) : Prop where
  len : T.length = m
  row : ∀ r ∈ T, r.length = m
  sgn : ∀ r ∈ T, ∀ c ∈ r, c = 43 ∨ c = 45 ∨ c = 48 ∨ c = 63
  few : (T.map (·.count 63)).sum ≤ h
def rowD (r : List Nat) : List D := r.map fun c => .str [c]
/-- the rows' cells -/
structure RowsAt (i q : Nat) (rs : List Nat) (T : List (List Nat)) (s : Store) : Prop where
  nd : rs.Nodup
  cell : s[q]? = some (.lst (rs.map D.ref))
  ln : rs.length = T.length
  row : ∀ (t r : Nat) (row : List Nat), rs[t]? = some r → T[t]? = some row → s[r]? = some (.lst (rowD row)) ∧ q < r ∧ r ≠ i
theorem RowsAt.fr {i q : Nat} {rs : List Nat} {T : List (List Nat)} {s s' : Store} (h : RowsAt i q rs T s) (f : Fr i s s') (ne : q ≠ i) : RowsAt i q rs T s' :=
  ⟨h.nd, f.at h.cell ne, h.ln, fun t r row h1 h2 => let ⟨a, b, c⟩ := h.row t r row h1 h2; ⟨f.at a c, b, c⟩⟩
theorem of_rowD {P : Nat → Prop} : ∀ {xs : List D}, (∀ x ∈ xs, ∃ c, x = .str [c] ∧ P c) → ∃ row, xs = rowD row ∧ ∀ c ∈ row, P c
  | [], _ => ⟨[], rfl, fun _ h => nomatch h⟩
  | x :: xs, h => by
    obtain ⟨c, rfl, hc⟩ := h x List.mem_cons_self
    obtain ⟨row, rfl, hr⟩ := of_rowD fun y hy => h y (List.mem_cons_of_mem _ hy)
    exact ⟨c :: row, rfl, fun d hd => by
      rcases List.mem_cons.mp hd with e | hd
      · rw [e]; exact hc
      · exact hr d hd⟩
theorem rowD_set (row : List Nat) (p c : Nat) : (rowD row).set p (.str [c]) = rowD (row.set p c) := by
  unfold rowD
  rw [List.map_set]
theorem rowD_len (row : List Nat) : (rowD row).length = row.length := List.length_map ..
/-- a sign that shows -/
def Sg (c : Nat) : Prop := c = 43 ∨ c = 45 ∨ c = 48
theorem rd_isC {s : Store} {k : Nat} {xs : List D} (h : s[k]? = some (.lst xs)) : isC (.ref k) s = .ok () s := by
  show (rdC k >>= fun _ => pure ()) s = _
  rw [bind_ok (rdC_ok h)]
  rfl
theorem rd_app {s : Store} {k : Nat} {xs : List D} {v : D} (h : s[k]? = some (.lst xs)) (hl : xs.length < 16777216) : appC (.ref k) v s = .ok .non (s.set k (.lst (xs ++ [v]))) := by
  show (rdC k >>= fun xs => if xs.length < 16777216 then wrC k (.lst (xs ++ [v])) >>= fun _ => pure D.non else M.stuck) s = _
  rw [bind_ok (rdC_ok h), if_pos hl]
  rfl
theorem ixN_nat {n p : Nat} (h : p < n) : ixN n (p : Int) = some p := by
  unfold ixN
  rw [if_pos (by omega), if_pos (by omega)]
  rfl
theorem row_turn {i q m p : Nat} {cs : List Nat} {rs : List Nat} {T : List (List Nat)} {st s : Store} (f : Fr i st s) (hq : st.length ≤ q) (hi : i < st.length) (hR : RowsAt i q rs T s) (hc0 : cs ≠ []) (hc1 : cs.length < 100) (hc : ∀ c ∈ cs, Sg c) (hm : m ≤ 4) (hp : p < m) (hrs : rs.length < 100) :
    Tr (rng1 (.int m) >>= fun x => compM dec1 (fun _ => pure true) (fun _ => dLen (.str cs) >>= fun x => m__law_pick (.ref i) x >>= fun x769 => dIndex (.str cs) x769) x >>= fun x => newC x >>= fun v => dIndex v (.int p) >>= fun x => fLst [.str [45], .str [45], .str [45], .str [48], x] >>= fun x => m__law_chosen (.ref i) x >>= fun x760 => setC v (.int p) x760 >>= fun _ => isC (.ref q) >>= fun _ => appC (.ref q) v >>= fun _ => (pure (.next ()) : M (Fl Unit Unit))) s
      fun fl s' => fl = .next () ∧ Fr i st s' ∧ ∃ r row, RowsAt i q (rs ++ [r]) (T ++ [row]) s' ∧ row.length = m ∧ ∀ c ∈ row, Sg c := by
  rw [rng_1 ⟨by omega, by omega⟩, M.pure_bind]
  have hp0 : 0 < cs.length := List.length_pos_iff.mpr hc0
  refine tr_then (comp_tr (i := i) (Pr := fun x => ∃ c, x = .str [c] ∧ Sg c) f.src fun d _ => ⟨d, rfl, fun s3 f3 => ?_⟩) fun xs s3 ⟨f3, hl, hx⟩ => ?_
  · rw [s_len, M.pure_bind]
    refine tr_then (pick_tr f3.src (by omega) (by omega)) fun d s4 ⟨f4, r, e, r0, r1⟩ => ?_
    subst e
    obtain ⟨k, c, rfl, hk, hd, ha⟩ := at_int r0 r1
    rw [ix_str ha]
    exact tr_pure ⟨f4, c, rfl, hc c (List.mem_of_getElem? hd)⟩
  rw [upFrom_len] at hl
  have hl' : xs.length = m := by omega
  obtain ⟨row, rfl, hrow⟩ := of_rowD hx
  rw [rowD_len] at hl'
  refine tr_run (n_cel (by rw [rowD_len]; omega)) ?_
  have f4 : Fr i s3 (s3 ++ [.lst (rowD row)]) := Fr.push f3.src _
  have hk4 : (s3 ++ [Cell.lst (rowD row)])[s3.length]? = some (.lst (rowD row)) := List.getElem?_concat_length
  have hpr : (rowD row)[p]? = some (.str [row[p]'(by omega)]) := by
    unfold rowD
    rw [List.getElem?_map, List.getElem?_eq_getElem (by omega)]
    rfl
  refine tr_run (rd_ix hk4 (at_nat hpr)) ?_
  rw [f_lst (xs := [D.str [45], D.str [45], D.str [45], D.str [48], D.str [row[p]'(by omega)]]) (show (5 : Nat) ≤ 16777216 by decide), M.pure_bind]
  refine tr_then (chosen_tr f4.src (fun e => nomatch e) (show (5 : Nat) < 1073741824 by decide)) fun d s5 ⟨f5, hd⟩ => ?_
  have hdc : ∃ c, d = .str [c] ∧ Sg c := by
    simp only [List.mem_cons, List.not_mem_nil, or_false] at hd
    rcases hd with rfl | rfl | rfl | rfl | rfl
    · exact ⟨45, rfl, .inr (.inl rfl)⟩
    · exact ⟨45, rfl, .inr (.inl rfl)⟩
    · exact ⟨45, rfl, .inr (.inl rfl)⟩
    · exact ⟨48, rfl, .inr (.inr rfl)⟩
    · exact ⟨_, rfl, hrow _ (List.getElem_mem _)⟩
  obtain ⟨c, rfl, hcc⟩ := hdc
  have fs := f.trans f3
  have ltq : q < s3.length := by
    have := (List.getElem?_eq_some_iff.mp (hR.fr f3 (by omega)).cell).1
    exact this
  have ner : s3.length ≠ i := by omega
  have hk5 := f5.at hk4 ner
  refine tr_run (rd_set hk5 (ixN_nat (by rw [rowD_len]; omega))) ?_
  rw [rowD_set]
  have R3 := hR.fr f3 (by omega)
  have R5 := (R3.fr f4 (by omega)).fr f5 (by omega)
  have cell6 : (s5.set s3.length (.lst (rowD (row.set p c))))[q]? = some (.lst (rs.map D.ref)) := by
    rw [List.getElem?_set_ne (by omega)]
    exact R5.cell
  refine tr_run (rd_isC cell6) ?_
  refine tr_run (rd_app cell6 (by rw [List.length_map]; omega)) ?_
  have lt5 : s3.length < s5.length := (List.getElem?_eq_some_iff.mp hk5).1
  refine tr_pure ⟨rfl, ?_, s3.length, row.set p c, ⟨?_, ?_, ?_, ?_⟩, by rw [List.length_set]; exact hl', fun e he => ?_⟩
  · exact Fr.wr (Fr.wr ((fs.trans f4).trans f5) (by have := fs.len; omega) hi _) hq hi _
  · rw [List.nodup_append]
    refine ⟨hR.nd, List.nodup_cons.mpr ⟨List.not_mem_nil, List.nodup_nil⟩, fun a ha b hb e => ?_⟩
    rw [List.mem_singleton] at hb
    obtain ⟨t, ht⟩ := List.mem_iff_getElem?.mp ha
    have htl : t < T.length := by rw [← hR.ln]; exact (List.getElem?_eq_some_iff.mp ht).1
    have := (List.getElem?_eq_some_iff.mp (R3.row t a _ ht (List.getElem?_eq_getElem htl)).1).1
    omega
  · rw [List.getElem?_set_self (by rw [List.length_set]; omega), List.map_append]
    rfl
  · rw [List.length_append, List.length_append, hR.ln]
    rfl
  · intro t r row' h1 h2
    by_cases ht : t < rs.length
    · rw [List.getElem?_append_left ht] at h1
      rw [List.getElem?_append_left (by rw [← hR.ln]; exact ht)] at h2
      obtain ⟨x1, x2, x3⟩ := R5.row t r row' h1 h2
      have := (List.getElem?_eq_some_iff.mp (R3.row t r row' h1 h2).1).1
      refine ⟨?_, x2, x3⟩
      rw [List.getElem?_set_ne (by omega), List.getElem?_set_ne (by omega)]
      exact x1
    · have ht2 : t = rs.length := by
        have := (List.getElem?_eq_some_iff.mp h1).1
        rw [List.length_append, List.length_singleton] at this
        omega
      subst ht2
      rw [List.getElem?_append_right (Nat.le_refl _), Nat.sub_self] at h1
      rw [hR.ln, List.getElem?_append_right (Nat.le_refl _), Nat.sub_self] at h2
      cases h1
      cases h2
      refine ⟨?_, ltq, ner⟩
      rw [List.getElem?_set_ne (by omega), List.getElem?_set_self lt5]
  · rcases List.mem_or_eq_of_mem_set he with q | q
    · exact hrow e q
    · rw [q]; exact hcc
theorem cnt_row : ∀ (row : List Nat) (b : Nat), (row.set b 63).count 63 ≤ row.count 63 + 1
  | [], _ => by simp
  | c :: row, 0 => by
    show (63 :: row).count 63 ≤ _
    rw [List.count_cons_self]
    have : row.count 63 ≤ (c :: row).count 63 := by rw [List.count_cons]; omega
    omega
  | c :: row, b + 1 => by
    show (c :: row.set b 63).count 63 ≤ _
    have := cnt_row row b
    rw [List.count_cons, List.count_cons]
    omega
theorem cnt_set : ∀ (T : List (List Nat)) (a : Nat) (row row' : List Nat), T[a]? = some row → row'.count 63 ≤ row.count 63 + 1 → ((T.set a row').map (·.count 63)).sum ≤ (T.map (·.count 63)).sum + 1
  | [], _, _, _, h, _ => nomatch h
  | r :: T, 0, row, row', h, h2 => by
    cases h
    show (row'.count 63) + _ ≤ (r.count 63) + _ + 1
    omega
  | r :: T, a + 1, row, row', h, h2 => by
    have := cnt_set T a row row' h h2
    rw [List.set_cons_succ, List.map_cons, List.map_cons, List.sum_cons, List.sum_cons]
    omega
theorem hide_turn {i q m h : Nat} {rs : List Nat} {T : List (List Nat)} {st s : Store} (f : Fr i st s) (hq : st.length ≤ q) (hi : i < st.length) (hR : RowsAt i q rs T s) (hm : 1 ≤ m ∧ m ≤ 4) (hT : MOk h m T) :
    Tr (m__law_pick (.ref i) (.int m) >>= fun x => dIndex (.ref q) x >>= fun x790 => m__law_pick (.ref i) (.int m) >>= fun x791 => setC x790 x791 (.str [63]) >>= fun _ => (pure (.next ()) : M (Fl Unit Unit))) s
      fun fl s' => fl = .next () ∧ Fr i st s' ∧ ∃ T', RowsAt i q rs T' s' ∧ MOk (h + 1) m T' := by
  refine tr_then (pick_tr f.src (by omega) (by omega)) fun d s1 ⟨f1, a, e, a0, a1⟩ => ?_
  subst e
  have R1 := hR.fr f1 (by omega)
  have hl := hR.ln
  have hTl := hT.len
  obtain ⟨k, rfl⟩ := Int.eq_ofNat_of_zero_le a0
  have hk : k < rs.length := by omega
  have hr : rs[k]? = some rs[k] := List.getElem?_eq_getElem hk
  have hrow : T[k]? = some (T[k]'(by omega)) := List.getElem?_eq_getElem (by omega)
  refine tr_run (rd_ix R1.cell (at_nat (k := k) (d := D.ref rs[k]) (by rw [List.getElem?_map, hr]; rfl))) ?_
  refine tr_then (pick_tr f1.src (by omega) (by omega)) fun d s2 ⟨f2, b, e, b0, b1⟩ => ?_
  subst e
  have R2 := R1.fr f2 (by omega)
  obtain ⟨p, rfl⟩ := Int.eq_ofNat_of_zero_le b0
  obtain ⟨c1, c2, c3⟩ := R2.row k _ _ hr hrow
  have hlen := hT.row _ (List.mem_of_getElem? hrow)
  refine tr_run (rd_set c1 (ixN_nat (by rw [rowD_len]; omega))) ?_
  rw [rowD_set]
  have lt2 := (List.getElem?_eq_some_iff.mp c1).1
  have hqr : rs[k] ≠ q := by omega
  refine tr_pure ⟨rfl, Fr.wr ((f.trans f1).trans f2) (by omega) hi _, T.set k ((T[k]'(by omega)).set p 63), ⟨hR.nd, ?_, ?_, ?_⟩, ⟨?_, ?_, ?_, ?_⟩⟩
  · rw [List.getElem?_set_ne hqr]
    exact R2.cell
  · rw [List.length_set]
    exact hl
  · intro t r row h1 h2
    by_cases ht : t = k
    · subst ht
      rw [hr] at h1
      cases h1
      rw [List.getElem?_set_self (by omega)] at h2
      cases h2
      exact ⟨List.getElem?_set_self lt2, c2, c3⟩
    · rw [List.getElem?_set_ne (Ne.symm ht)] at h2
      obtain ⟨x1, x2, x3⟩ := R2.row t r row h1 h2
      refine ⟨?_, x2, x3⟩
      rw [List.getElem?_set_ne fun e => ht ((List.getElem?_inj (List.getElem?_eq_some_iff.mp h1).1 hR.nd).mp (by rw [h1, hr, e]))]
      exact x1
  · rw [List.length_set]
    exact hTl
  · intro r hr'
    rcases List.mem_or_eq_of_mem_set hr' with q | q
    · exact hT.row r q
    · rw [q, List.length_set]; exact hlen
  · intro r hr' c hc
    rcases List.mem_or_eq_of_mem_set hr' with q | q
    · exact hT.sgn r q c hc
    · subst q
      rcases List.mem_or_eq_of_mem_set hc with q | q
      · exact hT.sgn _ (List.mem_of_getElem? hrow) c q
      · exact .inr (.inr (.inr q))
  · exact Nat.le_trans (cnt_set T k _ _ hrow (cnt_row _ _)) (Nat.add_le_add_right hT.few 1)
theorem mk_t2 (a b : D) : mkTup [a, b] = pure (.tup [a, b]) := if_pos (show (2 : Nat) ≤ 16777216 by decide)
theorem strs_rowD : ∀ row : List Nat, strsOf (rowD row) = some (row.map fun c => [c])
  | [] => rfl
  | c :: row => by
    show (strsOf (rowD row)).map ([c] :: ·) = _
    rw [strs_rowD row]
    rfl
theorem join_ones : ∀ row : List Nat, joinL [] (row.map fun c => [c]) = row
  | [] => rfl
  | [c] => rfl
  | c :: d :: row => by
    show [c] ++ ([] ++ joinL [] ((d :: row).map fun c => [c])) = _
    rw [join_ones (d :: row)]
    rfl
theorem sum_ones : ∀ row : List Nat, ((row.map fun c => [c]).map (·.length)).sum = row.length
  | [] => rfl
  | c :: row => by
    have := sum_ones row
    rw [List.map_cons, List.map_cons, List.sum_cons, this]
    simp only [List.length_cons, List.length_nil]
    omega
theorem rd_join {s : Store} {r : Nat} {row : List Nat} (h : s[r]? = some (.lst (rowD row))) (hl : row.length < 100) : dJoin (.str []) (.ref r) s = .ok (.str row) s := by
  show (rdC r >>= fun xs => ofO (strsOf xs) >>= fun ys => if joinOk [] ys = true then pure (D.str (joinL [] ys)) else M.stuck) s = _
  rw [bind_ok (rdC_ok h), strs_rowD, ofO_some, M.pure_bind, join_ones, if_pos]
  · rfl
  · unfold joinOk
    rw [sum_ones, List.length_nil, Nat.mul_zero, decide_eq_true_eq]
    omega
theorem join_rows : ∀ {rs : List Nat} {T : List (List Nat)} {s : Store}, rs.length = T.length → (∀ (t r : Nat) (row : List Nat), rs[t]? = some r → T[t]? = some row → s[r]? = some (.lst (rowD row)) ∧ row.length < 100) → compM dec1 (fun _ => pure true) (fun p => isS (.str []) >>= fun _ => dJoin (.str []) p) (rs.map D.ref) s = .ok (T.map D.str) s
  | [], [], s, _, _ => rfl
  | r :: rs, row :: T, s, hl, h => by
    have ih := join_rows (rs := rs) (T := T) (s := s) (by rw [List.length_cons, List.length_cons] at hl; omega) fun t a b h1 h2 => h (t + 1) a b h1 h2
    obtain ⟨h1, h2⟩ := h 0 r row rfl rfl
    rw [List.map_cons]
    unfold compM
    show (nox (pure true) >>= fun b => if b = true then nox (isS (.str []) >>= fun _ => dJoin (.str []) (.ref r)) >>= fun y => compM dec1 (fun _ => pure true) (fun p => isS (.str []) >>= fun _ => dJoin (.str []) p) (rs.map D.ref) >>= fun r => pure (y :: r) else compM dec1 (fun _ => pure true) (fun p => isS (.str []) >>= fun _ => dJoin (.str []) p) (rs.map D.ref)) s = _
    rw [nox_pure, M.pure_bind, if_pos rfl]
    have e : nox (isS (.str []) >>= fun _ => dJoin (.str []) (.ref r)) s = .ok (.str row) s := by
      have e0 : (isS (.str []) >>= fun _ => dJoin (.str []) (.ref r)) s = .ok (.str row) s := rd_join h1 h2
      unfold nox
      rw [e0]
    rw [bind_ok e, bind_ok ih]
    rfl
theorem cnt0 : ∀ {T : List (List Nat)}, (∀ row ∈ T, ∀ c ∈ row, Sg c) → (T.map (·.count 63)).sum = 0
  | [], _ => rfl
  | row :: T, h => by
    rw [List.map_cons, List.sum_cons, cnt0 fun r hr => h r (List.mem_cons_of_mem _ hr), List.count_eq_zero.mpr fun hm => by
      have := h row List.mem_cons_self 63 hm
      unfold Sg at this
      omega]
def thins : List D := [.str [45, 43, 48], .str [45, 43, 48], .str [45, 45, 43, 48, 48], .str [45, 43, 43, 48], .str [45, 43]]
theorem thin_in : ∀ d ∈ thins, ∃ cs : List Nat, d = .str cs ∧ cs ≠ [] ∧ cs.length < 100 ∧ ∀ c ∈ cs, Sg c := by
  have key : ∀ cs : List Nat, cs ∈ [[45, 43, 48], [45, 43, 48], [45, 45, 43, 48, 48], [45, 43, 43, 48], [45, 43]] → cs ≠ [] ∧ cs.length < 100 ∧ ∀ c ∈ cs, (c = 43 ∨ c = 45 ∨ c = 48) := by decide
  intro d hd
  obtain ⟨cs, h1, h2⟩ : ∃ cs ∈ [[45, 43, 48], [45, 43, 48], [45, 45, 43, 48, 48], [45, 43, 43, 48], [45, 43]], D.str cs = d := List.mem_map.mp (show d ∈ [[45, 43, 48], [45, 43, 48], [45, 45, 43, 48, 48], [45, 43, 43, 48], [45, 43]].map D.str from hd)
  exact ⟨cs, h2.symm, key cs h1⟩
theorem thin_tr {i : Nat} {st : Store} (h : Gs i st) : Tr (m__law_chosen (.ref i) (.lst thins)) st fun d s => Fr i st s ∧ ∃ cs : List Nat, d = .str cs ∧ cs ≠ [] ∧ cs.length < 100 ∧ ∀ c ∈ cs, Sg c :=
  tr_mono (chosen_tr h (List.cons_ne_nil _ _) (by decide)) fun d s hh => ⟨hh.1, thin_in d hh.2⟩
theorem drawn_rest {i m : Nat} {st s3 : Store} {cs : List Nat} (h : Gs i st) (f03 : Fr i st s3) (hm1 : 1 ≤ m) (hm4 : m ≤ 4) (hc0 : cs ≠ []) (hc1 : cs.length < 100) (hc : ∀ c ∈ cs, Sg c) :
    Tr (newC [] >>= fun x_1 => mkTup [.str cs, x_1] >>= fun x => ofO (dec2 x) >>= fun x => rng1 (.int m) >>= fun x_2 =>
      loopM dec1 (fun _ p732 => rng1 (.int m) >>= fun y => compM dec1 (fun _ => pure true) (fun _ => dLen x.fst >>= fun z => m__law_pick (.ref i) z >>= fun x769 => dIndex x.fst x769) y >>= fun y => newC y >>= fun v => dIndex v p732 >>= fun y => fLst [.str [45], .str [45], .str [45], .str [48], y] >>= fun y => m__law_chosen (.ref i) y >>= fun x760 => setC v p732 x760 >>= fun _ => isC x.snd >>= fun _ => appC x.snd v >>= fun _ => (pure (.next ()) : M (Fl Unit Unit))) x_2 () >>= fun x_3 =>
      (thenL x_3 fun _ => dAdd (.int 4) (.int 1) >>= fun y => m__law_pick (.ref i) y >>= fun y => rng1 y >>= fun ds => loopM dec1 (fun _ _ => m__law_pick (.ref i) (.int m) >>= fun y => dIndex x.snd y >>= fun x790 => m__law_pick (.ref i) (.int m) >>= fun x791 => setC x790 x791 (.str [63]) >>= fun _ => (pure (.next ()) : M (Fl Unit Unit))) ds () >>= fun f778 =>
        thenL f778 fun _ => frz x.snd >>= fun y => asW y >>= fun y => compM dec1 (fun _ => pure true) (fun p => isS (.str []) >>= fun _ => dJoin (.str []) p) y >>= fun y => fLst y >>= fun y => dTuple y >>= fun y => (pure (Fl.ret y) : M (Fl Empty Empty))) >>= retM) s3
    fun d s => Fr i st s ∧ ∃ m T, d = .tup (T.map D.str) ∧ 1 ≤ m ∧ m ≤ 4 ∧ MOk 4 m T := by
  refine tr_run (n_cel (xs := []) (by decide)) ?_
  have f04 : Fr i st (s3 ++ [.lst []]) := f03.trans (Fr.push f03.src _)
  rw [mk_t2, M.pure_bind]
  show Tr (ofO (some (D.str cs, D.ref s3.length)) >>= _) _ _
  rw [ofO_some, M.pure_bind, rng_1 ⟨by omega, by omega⟩, M.pure_bind]
  dsimp only
  have hi := h.lt
  have hq : st.length ≤ s3.length := f03.len
  refine tr_then (loop_ix (k := 0) (I := fun k _ s => Fr i st s ∧ ∃ rs T, RowsAt i s3.length rs T s ∧ T.length = k ∧ ∀ row ∈ T, row.length = m ∧ ∀ c ∈ row, Sg c) (fun j d hj => ⟨d, rfl, fun _ s ⟨f, rs, T, R, hl, hg⟩ => ?_⟩) ⟨f04, [], [], ⟨List.nodup_nil, List.getElem?_concat_length, rfl, fun _ _ _ h => nomatch h⟩, rfl, fun _ h => nomatch h⟩) fun fl s5 ⟨_, e, f5, rs, T, R, hl, hg⟩ => ?_
  · obtain ⟨p, hp, rfl⟩ := up_mem (List.mem_of_getElem? hj)
    have hj' := (List.getElem?_eq_some_iff.mp hj).1
    rw [upFrom_len] at hj'
    rw [Int.zero_add]
    have rt := row_turn f hq hi R hc0 hc1 hc hm4 (show p < m by omega) (by have := R.ln; omega)
    rw [rng_1 ⟨by omega, by omega⟩] at rt
    refine tr_mono rt fun fl s' ⟨e, f', r, row, R', h1, h2⟩ => ⟨(), e, f', _, _, R', by rw [List.length_append, hl]; rfl, fun x hx => ?_⟩
    rcases List.mem_append.mp hx with q | q
    · exact hg x q
    · rw [List.mem_singleton.mp q]; exact ⟨h1, h2⟩
  subst e
  rw [upFrom_len] at hl
  rw [tl_next]
  simp (config := {implicitDefEqProofs := false}) only [M.bind_assoc, ii_add, M.pure_bind]
  refine tr_then (pick_tr f5.src (by decide) (by decide)) fun d s6 ⟨f6, n, e, n0, n1⟩ => ?_
  subst e
  rw [rng_1 ⟨by omega, by omega⟩, M.pure_bind]
  have M0 : MOk 0 m T := ⟨by omega, fun r hr => (hg r hr).1, fun r hr c hc => by
    have := (hg r hr).2 c hc
    unfold Sg at this
    omega, by rw [cnt0 fun r hr => (hg r hr).2]; omega⟩
  refine tr_then (loop_ix (k := 0) (I := fun k _ s => Fr i st s ∧ ∃ T, RowsAt i s3.length rs T s ∧ MOk k m T) (fun j d hj => ⟨d, rfl, fun _ s ⟨f, T, R, hT⟩ => ?_⟩) ⟨f5.trans f6, T, R.fr f6 (by omega), M0⟩) fun fl s7 ⟨_, e, f7, T, R, hT⟩ => ?_
  · exact tr_mono (hide_turn f hq hi R ⟨hm1, hm4⟩ hT) fun fl s' ⟨e, f', h2⟩ => ⟨(), e, f', h2⟩
  subst e
  rw [tl_next]
  simp (config := {implicitDefEqProofs := false}) only [M.bind_assoc]
  refine tr_run (rd_frz R.cell) ?_
  rw [w_lst, M.pure_bind]
  refine tr_run (join_rows (T := T) R.ln fun t r row h1 h2 => ?_) ?_
  · obtain ⟨x1, x2, x3⟩ := R.row t r row h1 h2
    have := hT.row row (List.mem_of_getElem? h2)
    exact ⟨by rw [List.getElem?_set_ne (by omega)]; exact x1, by omega⟩
  have hTl := hT.len
  rw [f_lst (by rw [List.length_map]; omega), M.pure_bind, tup_lst, M.pure_bind, M.pure_bind, r_ret]
  rw [upFrom_len] at hT
  refine tr_pure ⟨Fr.wr f7 hq hi _, m, T, rfl, hm1, hm4, hT.len, hT.row, hT.sgn, Nat.le_trans hT.few (by omega)⟩
theorem drawn_tr {i : Nat} {st : Store} (h : Gs i st) : Tr (m__law_drawn_model (.ref i) (.int 4) (.int 4)) st fun d s => Fr i st s ∧ ∃ m T, d = .tup (T.map D.str) ∧ 1 ≤ m ∧ m ≤ 4 ∧ MOk 4 m T := by
  unfold m__law_drawn_model mB__law_drawn_model
  simp (config := {implicitDefEqProofs := false}) only [M.pure_bind, M.bind_assoc, m2]
  refine tr_then (pick_tr h (by decide) (by decide)) fun d s1 ⟨f1, a, e, a0, a1⟩ => ?_
  subst e
  rw [ii_add, M.pure_bind]
  simp (config := {implicitDefEqProofs := false}) only [bAnd, ii_gt, M.pure_bind, M.bind_assoc, b_as]
  rw [if_pos (by decide)]
  simp (config := {implicitDefEqProofs := false}) only [M.bind_assoc, M.pure_bind]
  refine tr_then (pick_tr f1.src (by decide) (by decide)) fun d s2 ⟨f2, b, e, b0, b1⟩ => ?_
  subst e
  have first : ∃ m : Nat, 1 ≤ m ∧ m ≤ 4 ∧ (if decide (0 < b) = true then dMax2 (.int (1 + a)) (.int 3) >>= fun v => pure (.next v) else pure (.next (.int (1 + a))) : M (Fl D Empty)) = pure (.next (.int m)) := by
    by_cases hb : 0 < b
    · rw [if_pos (decide_eq_true hb)]
      by_cases h3 : (3 : Int) > 1 + a
      · refine ⟨3, by omega, by omega, ?_⟩
        have e : dMax2 (.int (1 + a)) (.int 3) = pure (.int (if (3 : Int) > 1 + a then 3 else 1 + a)) := rfl
        rw [e, if_pos h3]
        rfl
      · refine ⟨(1 + a).toNat, by omega, by omega, ?_⟩
        have e : dMax2 (.int (1 + a)) (.int 3) = pure (.int (if (3 : Int) > 1 + a then 3 else 1 + a)) := rfl
        rw [e, if_neg h3, M.pure_bind, Int.toNat_of_nonneg (by omega)]
    · rw [if_neg (by rw [decide_eq_true_eq]; exact hb)]
      exact ⟨(1 + a).toNat, by omega, by omega, by rw [Int.toNat_of_nonneg (by omega)]⟩
  obtain ⟨m, hm1, hm4, e⟩ := first
  rw [ii_gt, M.pure_bind, b_as, M.pure_bind, e, M.pure_bind, th_next]
  simp (config := {implicitDefEqProofs := false}) only [M.bind_assoc]
  rw [f_lst (by decide), M.pure_bind]
  refine tr_then (thin_tr f2.src) fun d s3 hh => ?_
  exact Exists.elim hh.2 fun cs hh2 => by
    rw [hh2.1]
    exact drawn_rest h ((f1.trans f2).trans hh.1) hm1 hm4 hh2.2.1 hh2.2.2.1 hh2.2.2.2
end My
/-! KP5: drawn sizes. -/
namespace My
open PySem PySem.Spec PyProof.Rows L2 DL DH
theorem pow9 : dPow (.int 10) (.int 9) = pure (.int 1000000000) := rfl
theorem f_l5 (a b c d e : D) : fLst [a, b, c, d, e] = pure (.lst [a, b, c, d, e]) := if_pos (show (5 : Nat) ≤ 16777216 by decide)
theorem sizes_tr {i m : Nat} {st : Store} (h : Gs i st) (hm : m ≤ 4) : Tr (m__law_drawn_sizes (.ref i) (.int m)) st fun d s => Fr i st s ∧ ∃ xs, d = .tup xs ∧ xs.length = m ∧ ∀ x ∈ xs, ∃ ys, x = .tup ys ∧ ys.length = m ∧ ∀ y ∈ ys, ∃ z : Int, y = .int z := by
  unfold m__law_drawn_sizes mB__law_drawn_sizes
  simp (config := {implicitDefEqProofs := false}) only [M.pure_bind, M.bind_assoc, m2, pow9, pow30]
  refine tr_then (pick_tr h (by decide) (by decide)) fun d s1 ⟨f1, a, e, a0, a1⟩ => ?_
  subst e
  rw [ii_add, M.pure_bind]
  refine tr_then (pick_tr f1.src (by decide) (by decide)) fun d s2 ⟨f2, b, e, b0, b1⟩ => ?_
  subst e
  rw [ii_sub, M.pure_bind, f_l5, M.pure_bind, rng_1 ⟨by omega, by omega⟩, M.pure_bind]
  have f02 := f1.trans f2
  refine tr_then (comp_tr (i := i) (Pr := fun x => ∃ ys, x = .tup ys ∧ ys.length = m ∧ ∀ y ∈ ys, ∃ z : Int, y = .int z) f02.src fun d _ => ⟨d, rfl, fun s3 f3 => ?_⟩) fun xs s3 ⟨f3, hl, hx⟩ => ?_
  · rw [M.pure_bind]
    refine tr_then (comp_tr (i := i) (Pr := fun y => ∃ z : Int, y = .int z) f3.src fun d _ => ⟨d, rfl, fun s4 f4 => ?_⟩) fun ys s4 ⟨f4, hl, hy⟩ => ?_
    · refine tr_mono (chosen_tr f4.src (List.cons_ne_nil _ _) (show (5 : Nat) < 1073741824 by decide)) fun d s5 hh => ⟨hh.1, ?_⟩
      have hd := hh.2
      simp only [List.mem_cons, List.not_mem_nil, or_false] at hd
      rcases hd with e | e | e | e | e <;> exact ⟨_, e⟩
    · rw [upFrom_len] at hl
      rw [f_lst (by omega), M.pure_bind, tup_lst]
      exact tr_pure ⟨f4, ys, rfl, by omega, hy⟩
  · rw [upFrom_len] at hl
    rw [f_lst (by omega), M.pure_bind, tup_lst, M.pure_bind, r_ret]
    exact tr_pure ⟨f02.trans f3, xs, rfl, by omega, hx⟩
end My
/-! KP6: plain walks; models, sizes. -/
namespace My
open PySem PySem.Spec PyProof.Rows L2 DL DH
open TL (joinL)

mutual
theorem eqd_refl : ∀ (n : Nat) (d : D), okD n d = true → eqd d d = true
  | _, .non, _ => by unfold eqd; rfl
  | _, .bl a, _ => by unfold eqd; exact beq_self_eq_true a
  | _, .int a, _ => by unfold eqd; exact beq_self_eq_true a
  | _, .str a, _ => by unfold eqd; exact beq_self_eq_true a
  | 0, .lst xs, h => by rw [okD] at h; cases h
  | n + 1, .lst xs, h => by unfold eqd; exact eqds_refl n xs (by rw [okD] at h; exact h)
  | 0, .tup xs, h => by rw [okD] at h; cases h
  | n + 1, .tup xs, h => by unfold eqd; exact eqds_refl n xs (by rw [okD] at h; exact h)
  | _, .scr _, h => by rw [okD] at h; cases h
  | _, .fn _, h => by rw [okD] at h; cases h
  | _, .adr _, h => by rw [okD] at h; cases h
  | _, .ref _, h => by rw [okD] at h; cases h
theorem eqds_refl : ∀ (n : Nat) (ds : List D), okDs n ds = true → eqds ds ds = true
  | _, [], _ => by unfold eqds; rfl
  | n, d :: ds, h => by
    rw [okDs, Bool.and_eq_true] at h
    unfold eqds
    rw [eqd_refl n d h.1, eqds_refl n ds h.2]
    rfl
end
theorem okDs_iff {n : Nat} : ∀ {ds : List D}, okDs n ds = true ↔ ∀ d ∈ ds, okD n d = true
  | [] => by simp [okDs]
  | d :: ds => by
    rw [okDs, Bool.and_eq_true, okDs_iff]
    simp
theorem ok_lst {n : Nat} {xs : List D} : okD (n + 1) (.lst xs) = true ↔ ∀ d ∈ xs, okD n d = true := by rw [okD, okDs_iff]
theorem ok_tup {n : Nat} {xs : List D} : okD (n + 1) (.tup xs) = true ↔ ∀ d ∈ xs, okD n d = true := by rw [okD, okDs_iff]
theorem ok_str {n : Nat} (cs : List Nat) : okD n (.str cs) = true := by rw [okD]
theorem ok_int {n : Nat} (i : Int) : okD n (.int i) = true := by rw [okD]
theorem ok_bl {n : Nat} (i : Bool) : okD n (.bl i) = true := by rw [okD]
theorem ok_non {n : Nat} : okD n .non = true := by rw [okD]
theorem eq_ok {x y : D} (hx : okD 60 x = true) (hy : okD 60 y = true) : dEq x y = pure (.bl (eqd x y)) := if_pos ⟨hx, hy⟩
theorem ne_ok {x y : D} (hx : okD 60 x = true) (hy : okD 60 y = true) : dNe x y = pure (.bl (!eqd x y)) := if_pos ⟨hx, hy⟩
theorem eq_same {d : D} (h : okD 60 d = true) : dEq d d = pure (.bl true) := by rw [eq_ok h h, eqd_refl 60 d h]
theorem ne_same {d : D} (h : okD 60 d = true) : dNe d d = pure (.bl false) := by rw [ne_ok h h, eqd_refl 60 d h]; rfl
theorem ne_ii (i j : Int) : dNe (.int i) (.int j) = pure (.bl (!decide (i = j))) := by
  rw [ne_ok (ok_int _) (ok_int _)]
  unfold eqd
  rfl
theorem ne_nn (a b : Nat) : dNe (.int (a : Nat)) (.int (b : Nat)) = pure (.bl (!decide (a = b))) := by
  rw [ne_ii]
  congr 3
  rw [decide_eq_decide]
  omega
theorem eq_ss (a b : List Nat) : dEq (.str a) (.str b) = pure (.bl (a == b)) := by
  rw [eq_ok (ok_str _) (ok_str _)]
  unfold eqd
  rfl
theorem ne_ss (a b : List Nat) : dNe (.str a) (.str b) = pure (.bl (!(a == b))) := by
  rw [ne_ok (ok_str _) (ok_str _)]
  unfold eqd
  rfl
theorem eqd_nil (xs : List D) : eqd (.lst xs) (.lst []) = xs.isEmpty := by
  unfold eqd
  cases xs with
  | nil => unfold eqds; rfl
  | cons _ _ => unfold eqds; rfl
theorem ne_nil {xs : List D} (h : okDs 59 xs = true) : dNe (.lst xs) (.lst []) = pure (.bl (!xs.isEmpty)) := by
  rw [ne_ok (by rw [okD]; exact h) (by rw [okD, okDs]), eqd_nil]
/-! ### comprehensions and loops that only look -/
theorem comp_map {X Pp : Type} {dec : D → Option Pp} {test : Pp → M Bool} {el : Pp → M D} (ed : X → D) (t : X → Bool) (g : X → D) : ∀ {xs : List X}, (∀ x ∈ xs, ∃ p, dec (ed x) = some p ∧ test p = pure (t x) ∧ (t x = true → el p = pure (g x))) → compM dec test el (xs.map ed) = pure ((xs.filter t).map g)
  | [], _ => rfl
  | x :: xs, h => by
    obtain ⟨p, h1, h2, h3⟩ := h x List.mem_cons_self
    have ih := comp_map ed t g fun y hy => h y (List.mem_cons_of_mem _ hy)
    rw [List.map_cons]
    unfold compM
    rw [h1]
    show (nox (test p) >>= fun b => if b = true then nox (el p) >>= fun y => compM dec test el (xs.map ed) >>= fun r => pure (y :: r) else compM dec test el (xs.map ed)) = _
    rw [h2, nox_pure, M.pure_bind, ih]
    cases ht : t x with
    | true =>
      rw [if_pos rfl, h3 ht, nox_pure, M.pure_bind, M.pure_bind, List.filter_cons_of_pos ht]
      rfl
    | false => rw [if_neg Bool.false_ne_true, List.filter_cons_of_neg (by rw [ht]; exact Bool.false_ne_true)]
theorem comp_all {X Pp : Type} {dec : D → Option Pp} {el : Pp → M D} (ed : X → D) (g : X → D) {xs : List X} (h : ∀ x ∈ xs, ∃ p, dec (ed x) = some p ∧ el p = pure (g x)) : compM dec (fun _ => pure true) el (xs.map ed) = pure (xs.map g) := by
  rw [comp_map ed (fun _ => true) g fun x hx => let ⟨p, a, b⟩ := h x hx; ⟨p, a, rfl, fun _ => b⟩, List.filter_eq_self.mpr fun _ _ => rfl]
theorem loop_map {X A S Pp : Type} {dec : D → Option Pp} {body : S → Pp → M (Fl S S)} (es : A → S) (ed : X → D) (f : A → X → A) (I : Nat → A → Prop) : ∀ (xs : List X) (k : Nat) (a : A), (∀ (j : Nat) (x : X) (a : A), xs[j]? = some x → I (k + j) a → ∃ p, dec (ed x) = some p ∧ body (es a) p = pure (.next (es (f a x))) ∧ I (k + j + 1) (f a x)) → I k a → loopM dec body (xs.map ed) (es a) = pure (.next (es (xs.foldl f a))) ∧ I (k + xs.length) (xs.foldl f a)
  | [], _, _, _, h => ⟨rfl, h⟩
  | x :: xs, k, a, hd, h => by
    obtain ⟨p, h1, h2, h3⟩ := hd 0 x a rfl h
    have ih := loop_map (dec := dec) (body := body) es ed f I xs (k + 1) (f a x) (fun j y b hj hb => by
      have e : k + 1 + j = k + (j + 1) := by omega
      rw [e] at hb ⊢
      exact hd (j + 1) y b hj hb) h3
    rw [List.map_cons, List.foldl_cons, List.length_cons, show k + (xs.length + 1) = k + 1 + xs.length by omega]
    refine ⟨?_, ih.2⟩
    unfold loopM
    rw [h1]
    show (body (es a) p >>= _) = _
    rw [h2, M.pure_bind]
    exact ih.1
/-- .. and what comes behind it -/
theorem loop_then {X A S Pp β : Type} {dec : D → Option Pp} {body : S → Pp → M (Fl S S)} {rest : Fl S Empty → M β} {st : Store} {out : R β} (es : A → S) (ed : X → D) (f : A → X → A) (I : Nat → A → Prop) (xs : List X) (a : A) (h0 : I 0 a)
    (hb : ∀ (j : Nat) (x : X) (a : A), xs[j]? = some x → I j a → ∃ p, dec (ed x) = some p ∧ body (es a) p = pure (.next (es (f a x))) ∧ I (j + 1) (f a x))
    (k : I xs.length (xs.foldl f a) → rest (.next (es (xs.foldl f a))) st = out) : (loopM dec body (xs.map ed) (es a) >>= rest) st = out := by
  have h := loop_map (dec := dec) (body := body) es ed f I xs 0 a (fun j x a hj hi => by rw [Nat.zero_add] at hi ⊢; exact hb j x a hj hi) h0
  rw [h.1, M.pure_bind]
  rw [Nat.zero_add] at h
  exact k h.2
/-- a loop that ends at the first bad one -/
theorem loop_find {X A S Pp : Type} {dec : D → Option Pp} {body : S → Pp → M (Fl S S)} (es : A → S) (ed : X → D) (bad : X → Bool) (r : D) (f : A → X → A) : ∀ (xs : List X) (a : A), (∀ x ∈ xs, ∀ a, ∃ p, dec (ed x) = some p ∧ body (es a) p = if bad x = true then pure (.ret r) else pure (.next (es (f a x)))) → loopM dec body (xs.map ed) (es a) = if xs.any bad = true then pure (.ret r) else pure (.next (es (xs.foldl f a)))
  | [], _, _ => rfl
  | x :: xs, a, hd => by
    obtain ⟨p, h1, h2⟩ := hd x List.mem_cons_self a
    rw [List.map_cons]
    unfold loopM
    rw [h1]
    show (body (es a) p >>= _) = _
    rw [h2, List.any_cons]
    cases hb : bad x with
    | true => rfl
    | false =>
      rw [if_neg Bool.false_ne_true, M.pure_bind, Bool.false_or, List.foldl_cons]
      exact loop_find es ed bad r f xs (f a x) fun y hy => hd y (List.mem_cons_of_mem _ hy)
theorem all_map {X : Type} (p : X → Bool) (xs : List X) : dAll (.lst (xs.map fun x => .bl (p x))) = pure (.bl (xs.all p)) := by
  show (ofO (blsOf (xs.map fun x => D.bl (p x))) >>= fun bs => pure (D.bl (bs.all id))) = _
  rw [show (xs.map fun x => D.bl (p x)) = (xs.map p).map D.bl by rw [List.map_map]; rfl, blsOf_map, ofO_some, M.pure_bind, List.all_map]
  rfl
theorem any_map {X : Type} (p : X → Bool) (xs : List X) : dAny (.lst (xs.map fun x => .bl (p x))) = pure (.bl (xs.any p)) := by
  show (ofO (blsOf (xs.map fun x => D.bl (p x))) >>= fun bs => pure (D.bl (bs.any id))) = _
  rw [show (xs.map fun x => D.bl (p x)) = (xs.map p).map D.bl by rw [List.map_map]; rfl, blsOf_map, ofO_some, M.pure_bind, List.any_map]
  rfl
theorem sum_map {X : Type} (p : X → Int) (xs : List X) : dSum (.lst (xs.map fun x => .int (p x))) = pure (.int (xs.map p).sum) := by
  show (ofO (intsOf (xs.map fun x => D.int (p x))) >>= fun bs => pure (D.int bs.sum)) = _
  rw [show (xs.map fun x => D.int (p x)) = (xs.map p).map D.int by rw [List.map_map]; rfl, intsOf_map, ofO_some, M.pure_bind]
/-! ### plain values -/
def pl : D → Bool
  | .scr _ => false
  | .fn _ => false
  | .ref _ => false
  | .adr _ => false
  | _ => true
theorem sz_pl {B n : Nat} {d : D} (h : szD B n d = true) : pl d = true := by
  cases d with
  | scr _ => cases n <;> (unfold szD at h; cases h)
  | fn _ => cases n <;> (unfold szD at h; cases h)
  | ref _ => cases n <;> (unfold szD at h; cases h)
  | adr _ => cases n <;> (unfold szD at h; cases h)
  | _ => rfl
theorem sz_str {B n : Nat} {cs : List Nat} (h : szD B n (.str cs) = true) : cs.length ≤ B := by
  unfold szD at h
  exact of_decide_eq_true h
theorem sz_items {B n : Nat} {xs : List D} (h : szD B n (.tup xs) = true) : xs.length ≤ B ∧ ∃ k, ∀ d ∈ xs, szD B k d = true := by
  cases n with
  | zero => rw [sz_tup0] at h; cases h
  | succ n => exact ⟨(sz_tup.mp h).1, n, (sz_tup.mp h).2⟩
def wi (lo hi : Int) : D → Bool
  | .int i => decide (lo ≤ i) && decide (i ≤ hi)
  | _ => false
theorem chain_le (a b c : Int) : chM dLe dLe (pure (.int a)) (pure (.int b)) (pure (.int c)) = pure (.bl (decide (a ≤ b) && decide (b ≤ c))) := by
  unfold chM
  simp (config := {implicitDefEqProofs := false}) only [M.pure_bind, ii_le, b_as]
  cases decide (a ≤ b) <;> rfl
theorem within_eq {d : D} (h : pl d = true) (lo hi : Int) : m_is_within d (.int lo) (.int hi) = pure (.bl (wi lo hi d)) := by
  unfold m_is_within mB_is_within
  cases d with
  | int i =>
    rw [M.pure_bind, chain_le]
    rfl
  | scr _ => cases h
  | fn _ => cases h
  | ref _ => cases h
  | adr _ => cases h
  | _ => rfl
/-! ### models -/
def sgnB (c : Nat) : Bool := c == 43 || c == 45 || c == 48 || c == 63
def rowOk (m : Nat) : D → Bool
  | .str cs => decide (cs.length = m) && cs.all sgnB
  | _ => false
def cntD : D → Nat
  | .str cs => cs.count 63
  | _ => 0
def modelOk : D → Bool
  | .tup xs => (decide (1 ≤ xs.length) && decide (xs.length ≤ 4)) && (xs.all (rowOk xs.length) && decide ((xs.map cntD).sum ≤ 4))
  | _ => false
theorem beq1 (c d : Nat) : (([d] : List Nat) == [c]) = (d == c) := by
  show (d == c && true) = _
  rw [Bool.and_true]
theorem in_tup {x : D} {ys : List D} (hx : okD 60 x = true) (hy : okD 60 (.tup ys) = true) : dIn x (.tup ys) = pure (.bl (ys.any fun y => eqd y x)) := by
  unfold dIn
  split
  · next e => cases e
  · next e => cases e; exact if_pos ⟨hx, hy⟩
  · next e => cases e
  · next h1 h2 h3 => exact absurd rfl (h2 ys)
theorem in_lst {x : D} {ys : List D} (hx : okD 60 x = true) (hy : okD 60 (.lst ys) = true) : dIn x (.lst ys) = pure (.bl (ys.any fun y => eqd y x)) := by
  unfold dIn
  split
  · next e => cases e; exact if_pos ⟨hx, hy⟩
  · next e => cases e
  · next e => cases e
  · next h1 h2 h3 => exact absurd rfl (h1 ys)
theorem notin_lst {x : D} {ys : List D} (hx : okD 60 x = true) (hy : okD 60 (.lst ys) = true) : dNotIn x (.lst ys) = pure (.bl (!ys.any fun y => eqd y x)) := by
  unfold dNotIn
  split
  · next e => cases e; exact if_pos ⟨hx, hy⟩
  · next e => cases e
  · next e => cases e
  · next h1 h2 h3 => exact absurd rfl (h1 ys)
theorem notin_tup {x : D} {ys : List D} (hx : okD 60 x = true) (hy : okD 60 (.tup ys) = true) : dNotIn x (.tup ys) = pure (.bl (!ys.any fun y => eqd y x)) := by
  unfold dNotIn
  split
  · next e => cases e
  · next e => cases e; exact if_pos ⟨hx, hy⟩
  · next e => cases e
  · next h1 h2 h3 => exact absurd rfl (h2 ys)
theorem in_known (c : Nat) : dIn (.str [c]) k_KNOWN_SIGNS = pure (.bl (c == 43 || c == 45 || c == 48)) := by
  have e : dIn (.str [c]) k_KNOWN_SIGNS = pure (.bl ([D.str [43], .str [45], .str [48]].any fun y => eqd y (.str [c]))) := in_tup (ok_str _) (ok_tup.mpr fun d hd => by
    simp only [List.mem_cons, List.not_mem_nil, or_false] at hd
    rcases hd with rfl | rfl | rfl <;> exact ok_str _)
  rw [e]
  simp only [List.any_cons, List.any_nil, eqd, Bool.or_false, beq1]
  rw [Bool.beq_comm (a := 43), Bool.beq_comm (a := 45), Bool.beq_comm (a := 48), Bool.or_assoc]
theorem isi_s (cs : List Nat) : mIsi .str (.str cs) = pure (.bl true) := rfl
theorem row_eq {d : D} (h : pl d = true) (hs : ∀ cs, d = .str cs → cs.length ≤ 16777216) (m : Nat) : m_is_row d (.int m) = pure (.bl (rowOk m d)) := by
  cases d with
  | str cs =>
    have hl := hs cs rfl
    unfold m_is_row mB_is_row
    simp (config := {implicitDefEqProofs := false}) only [M.pure_bind, M.bind_assoc, bOr, isi_s, b_as, Bool.not_true, ifF, s_len, ne_nn, w_str]
    unfold rowOk
    by_cases hm : cs.length = m
    · simp (config := {implicitDefEqProofs := false}) only [decide_eq_true hm, Bool.not_true, ifF]
      rw [comp_all (dec := dec1) (fun c => D.str [c]) (fun c => D.bl (sgnB c)) fun c _ => ⟨_, rfl, ?_⟩]
      · rw [M.pure_bind, f_lst (by rw [List.length_map]; exact hl), M.pure_bind, all_map, M.pure_bind, M.pure_bind, r_ret]
        rfl
      · unfold vOr
        simp (config := {implicitDefEqProofs := false}) only [M.pure_bind, M.bind_assoc, in_known, b_as, eq_ss, beq1]
        unfold sgnB
        cases (c == 43 || c == 45 || c == 48) <;> rfl
    · simp (config := {implicitDefEqProofs := false}) only [decide_eq_false hm, Bool.not_false, ↓reduceIte, M.pure_bind, th_ret, r_ret, Bool.false_and]
  | scr _ => cases h
  | fn _ => cases h
  | ref _ => cases h
  | adr _ => cases h
  | _ => rfl
end My
/-! KP7: models, sizes. -/
namespace My
open PySem PySem.Spec PyProof.Rows L2 DL DH
open TL (joinL)

theorem isi_t (xs : List D) : mIsi .tuple (.tup xs) = pure (.bl true) := rfl
theorem cnt_is (c : Nat) : ∀ cs : List Nat, countIn (.str ⟨#[c]⟩) (cs.map fun n => PyData.str ⟨#[n]⟩) = cs.count c
  | [] => rfl
  | d :: cs => by
    have ih := cnt_is c cs
    rw [List.map_cons]
    unfold countIn
    rw [ih, List.count_cons]
    have e : same (PyData.str ⟨#[d]⟩) (.str ⟨#[c]⟩) = (d == c) := by
      have e2 := mkS_beq [d] [c]
      show ((⟨#[d]⟩ : PySem.Str) == ⟨#[c]⟩) = _
      rw [beq1] at e2
      exact e2
    rw [e]
    cases d == c <;> simp <;> omega
theorem count_q (cs : List Nat) : dCount (.str cs) (.str [63]) = pure (.int (cs.count 63 : Nat)) := by
  show pure (D.int (Txt.count (mkS cs) ⟨#[63]⟩)) = _
  rw [count_is, cnt_is]
theorem isS_s (cs : List Nat) : isS (.str cs) = pure () := rfl
theorem row_str {m : Nat} {d : D} (h : rowOk m d = true) : ∃ cs, d = .str cs ∧ cs.length = m ∧ ∀ c ∈ cs, sgnB c = true := by
  cases d with
  | str cs =>
    unfold rowOk at h
    rw [Bool.and_eq_true, decide_eq_true_eq, List.all_eq_true] at h
    exact ⟨cs, rfl, h.1, h.2⟩
  | _ => cases h
theorem len1 {a : Nat} : decide ((1 : Int) ≤ (a : Int)) = decide (1 ≤ a) := by
  by_cases h : 1 ≤ a
  · rw [decide_eq_true h, decide_eq_true]; omega
  · rw [decide_eq_false h, decide_eq_false]; omega
theorem len4 {a : Nat} : decide ((a : Int) ≤ 4) = decide (a ≤ 4) := by
  by_cases h : a ≤ 4
  · rw [decide_eq_true h, decide_eq_true]; omega
  · rw [decide_eq_false h, decide_eq_false]; omega
theorem isum_cast : ∀ xs : List D, (xs.map fun d => ((cntD d : Nat) : Int)).sum = ((xs.map cntD).sum : Nat)
  | [] => rfl
  | d :: xs => by
    rw [List.map_cons, List.sum_cons, isum_cast xs, List.map_cons, List.sum_cons]
    omega
theorem model_eq {d : D} (h : pl d = true) (hs : ∀ xs, d = .tup xs → ∀ x ∈ xs, pl x = true ∧ ∀ cs, x = .str cs → cs.length ≤ 16777216) : m_is_right_model d = pure (.bl (modelOk d)) := by
  cases d with
  | tup xs =>
    have hx := hs xs rfl
    unfold m_is_right_model mB_is_right_model
    simp (config := {implicitDefEqProofs := false}) only [M.pure_bind, M.bind_assoc, bOr, isi_t, b_as, Bool.not_true, ifF, t_len]
    rw [chain_le]
    simp (config := {implicitDefEqProofs := false}) only [M.pure_bind, b_as, len1, len4]
    rw [show modelOk (.tup xs) = ((decide (1 ≤ xs.length) && decide (xs.length ≤ 4)) && (xs.all (rowOk xs.length) && decide ((xs.map cntD).sum ≤ 4))) from rfl]
    by_cases hl : 1 ≤ xs.length ∧ xs.length ≤ 4
    · rw [show (decide (1 ≤ xs.length) && decide (xs.length ≤ 4)) = true by rw [Bool.and_eq_true, decide_eq_true_eq, decide_eq_true_eq]; exact hl]
      simp (config := {implicitDefEqProofs := false}) only [Bool.not_true, ifF, w_tup, M.pure_bind, Bool.true_and]
      have c1 : compM dec1 (fun _ => pure true) (fun p20 => mk2 m_is_row [p20, D.int xs.length]) xs = pure (xs.map fun x => D.bl (rowOk xs.length x)) := by
        have := comp_all (dec := dec1) (el := fun p20 => mk2 m_is_row [p20, D.int xs.length]) id (fun x => D.bl (rowOk xs.length x)) (xs := xs) fun x hm => ⟨x, rfl, by rw [m2]; exact row_eq (hx x hm).1 (hx x hm).2 _⟩
        rw [List.map_id] at this
        exact this
      rw [c1, M.pure_bind, f_lst (by rw [List.length_map]; omega), M.pure_bind, all_map, M.pure_bind, b_as, M.pure_bind]
      cases hr : xs.all (rowOk xs.length) with
      | false =>
        simp (config := {implicitDefEqProofs := false}) only [Bool.not_false, ↓reduceIte, M.pure_bind, th_ret, r_ret, Bool.false_and, Bool.and_false]
      | true =>
        simp (config := {implicitDefEqProofs := false}) only [Bool.not_true, ifF, M.pure_bind, Bool.true_and]
        rw [List.all_eq_true] at hr
        have c2 : compM dec1 (fun _ => pure true) (fun p29 => isS p29 >>= fun _ => dCount p29 (D.str [63])) xs = pure (xs.map fun x => D.int (cntD x : Nat)) := by
          have := comp_all (dec := dec1) (el := fun p29 => isS p29 >>= fun _ => dCount p29 (D.str [63])) id (fun x => D.int (cntD x : Nat)) (xs := xs) fun x hm => by
            obtain ⟨cs, rfl, _, _⟩ := row_str (hr x hm)
            exact ⟨_, rfl, by rw [id, isS_s, M.pure_bind, count_q]; rfl⟩
          rw [List.map_id] at this
          exact this
        rw [c2, M.pure_bind, f_lst (by rw [List.length_map]; omega), M.pure_bind, sum_map, M.pure_bind, ii_le, M.pure_bind, M.pure_bind, r_ret, isum_cast, len4]
    · rw [show (decide (1 ≤ xs.length) && decide (xs.length ≤ 4)) = false by rw [Bool.and_eq_false_iff, decide_eq_false_iff_not, decide_eq_false_iff_not]; omega]
      simp (config := {implicitDefEqProofs := false}) only [Bool.not_false, ↓reduceIte, M.pure_bind, th_ret, r_ret, Bool.false_and, Bool.and_false]
  | scr _ => cases h
  | fn _ => cases h
  | ref _ => cases h
  | adr _ => cases h
  | _ => rfl
theorem not_in (c : Nat) : dNotIn (.str [c]) (.lst [.str [43], .str [45], .str [48], .str [63]]) = pure (.bl (!sgnB c)) := by
  have e : dNotIn (.str [c]) (.lst [.str [43], .str [45], .str [48], .str [63]]) = pure (.bl (!([D.str [43], .str [45], .str [48], .str [63]].any fun y => eqd y (.str [c])))) := notin_lst (ok_str _) (ok_lst.mpr fun d hd => by
    simp only [List.mem_cons, List.not_mem_nil, or_false] at hd
    rcases hd with rfl | rfl | rfl | rfl <;> exact ok_str _)
  rw [e]
  simp only [List.any_cons, List.any_nil, eqd, Bool.or_false, beq1]
  unfold sgnB
  rw [Bool.beq_comm (a := 43), Bool.beq_comm (a := 45), Bool.beq_comm (a := 48), Bool.beq_comm (a := 63), Bool.or_assoc, Bool.or_assoc]
theorem f_l4 (a b c d : D) : fLst [a, b, c, d] = pure (.lst [a, b, c, d]) := if_pos (show (4 : Nat) ≤ 16777216 by decide)
theorem filter_bad (p : Nat → Bool) : ∀ cs : List Nat, ((cs.filter fun c => !p c).map fun _ => D.int 1).isEmpty = cs.all p
  | [] => rfl
  | c :: cs => by
    cases h : p c with
    | true => rw [List.filter_cons_of_neg (by rw [h]; exact Bool.false_ne_true), filter_bad p cs, List.all_cons, h, Bool.true_and]
    | false => rw [List.filter_cons_of_pos (by rw [h]; rfl), List.all_cons, h]; rfl
theorem ones_ok (p : Nat → Bool) (cs : List Nat) : okDs 59 ((cs.filter p).map fun _ => D.int 1) = true := okDs_iff.mpr fun d hd => by
  obtain ⟨_, _, rfl⟩ := List.mem_map.mp hd
  exact ok_int _
theorem any_not {X : Type} (p : X → Bool) : ∀ xs : List X, (xs.any fun x => !p x) = !xs.all p
  | [] => rfl
  | x :: xs => by rw [List.any_cons, List.all_cons, any_not p xs, Bool.not_and]
theorem fold_sum (f : D → Int) : ∀ (xs : List D) (a : Int), xs.foldl (fun a x => a + f x) a = a + (xs.map f).sum
  | [], a => by simp
  | x :: xs, a => by rw [List.foldl_cons, fold_sum f xs, List.map_cons, List.sum_cons]; omega
theorem good_eq {d : D} (h : pl d = true) (hs : ∀ xs, d = .tup xs → ∀ x ∈ xs, pl x = true ∧ ∀ cs, x = .str cs → cs.length ≤ 16777216) : m__law_good_model d = pure (.bl (modelOk d)) := by
  cases d with
  | tup xs =>
    have hx := hs xs rfl
    unfold m__law_good_model mB__law_good_model
    simp (config := {implicitDefEqProofs := false}) only [M.pure_bind, M.bind_assoc, bOr, isi_t, b_as, Bool.not_true, ifF, t_len]
    rw [chain_le]
    simp (config := {implicitDefEqProofs := false}) only [M.pure_bind, b_as, len1, len4]
    rw [show modelOk (.tup xs) = ((decide (1 ≤ xs.length) && decide (xs.length ≤ 4)) && (xs.all (rowOk xs.length) && decide ((xs.map cntD).sum ≤ 4))) from rfl]
    by_cases hl : 1 ≤ xs.length ∧ xs.length ≤ 4
    · rw [show (decide (1 ≤ xs.length) && decide (xs.length ≤ 4)) = true by rw [Bool.and_eq_true, decide_eq_true_eq, decide_eq_true_eq]; exact hl]
      simp (config := {implicitDefEqProofs := false}) only [Bool.not_true, ifF, w_tup, M.pure_bind, Bool.true_and]
      have lp := fun body hb => loop_find (S := D) (dec := dec1) (body := body) D.int id (fun x => !rowOk xs.length x) (.bl false) (fun a x => a + (cntD x : Nat)) xs 0 hb
      rw [List.map_id] at lp
      rw [lp _ fun x hm a => ⟨x, rfl, ?_⟩]
      · rw [any_not]
        cases hr : xs.all (rowOk xs.length) with
        | false =>
          rw [Bool.not_false, if_pos rfl, M.pure_bind, tl_ret, M.pure_bind, r_ret]
          rfl
        | true =>
          rw [Bool.not_true, if_neg Bool.false_ne_true, M.pure_bind, tl_next, ii_lt, M.pure_bind, M.pure_bind, r_ret, fold_sum (fun x => ((cntD x : Nat) : Int)), isum_cast, Bool.true_and]
          congr 2
          rw [Int.zero_add, decide_eq_decide]
          omega
      · obtain ⟨hp, hc⟩ := hx x hm
        cases x with
        | str cs =>
          have hl := hc cs rfl
          simp (config := {implicitDefEqProofs := false}) only [M.pure_bind, M.bind_assoc, isi_s, b_as, Bool.not_true, ifF, s_len, ne_nn, w_str]
          by_cases hm : cs.length = xs.length
          · simp (config := {implicitDefEqProofs := false}) only [decide_eq_true hm, Bool.not_true, ifF]
            rw [comp_map (dec := dec1) (fun c => D.str [c]) (fun c => !sgnB c) (fun _ => D.int 1) fun c _ => ⟨_, rfl, ?_, fun _ => rfl⟩]
            · rw [M.pure_bind, f_lst (by have := List.length_filter_le (fun c => !sgnB c) cs; rw [List.length_map]; omega), M.pure_bind, f_l0, M.pure_bind, ne_nil (ones_ok _ _), M.pure_bind, b_as, M.pure_bind, filter_bad]
              rw [show rowOk xs.length (.str cs) = (decide (cs.length = xs.length) && cs.all sgnB) from rfl]
              rw [decide_eq_true hm, Bool.true_and]
              cases cs.all sgnB with
              | true =>
                rw [Bool.not_true, if_neg Bool.false_ne_true, if_neg Bool.false_ne_true, isS_s, M.pure_bind, count_q, M.pure_bind, ii_add, M.pure_bind]
                rfl
              | false => rfl
            · rw [f_l4, M.pure_bind, not_in, M.pure_bind, b_as]
          · simp (config := {implicitDefEqProofs := false}) only [decide_eq_false hm, Bool.not_false]
            rw [show rowOk xs.length (.str cs) = (decide (cs.length = xs.length) && cs.all sgnB) from rfl]
            rw [decide_eq_false hm, Bool.false_and]
            rfl
        | scr _ => cases hp
        | fn _ => cases hp
        | ref _ => cases hp
        | adr _ => cases hp
        | _ => rfl
    · rw [show (decide (1 ≤ xs.length) && decide (xs.length ≤ 4)) = false by rw [Bool.and_eq_false_iff, decide_eq_false_iff_not, decide_eq_false_iff_not]; omega]
      simp (config := {implicitDefEqProofs := false}) only [Bool.not_false, ↓reduceIte, M.pure_bind, th_ret, r_ret, Bool.false_and, Bool.and_false]
  | scr _ => cases h
  | fn _ => cases h
  | ref _ => cases h
  | adr _ => cases h
  | _ => rfl
end My
/-! KP8: unknown places, fillings. -/
namespace My
open PySem PySem.Spec PyProof.Rows L2 DL DH
open TL (joinL)

abbrev Mo := List (List Nat)
def mD (T : Mo) : D := .tup (T.map D.str)
def plD (p : Nat × Nat) : D := .tup [.int (p.1 : Nat), .int (p.2 : Nat)]
/-- the hidden places of a row's rest, from (i, j) on -/
def hidR (i : Nat) : Nat → List Nat → List (Nat × Nat)
  | _, [] => []
  | j, c :: r => if c = 63 then (i, j) :: hidR i (j + 1) r else hidR i (j + 1) r
def hidT : Nat → Mo → List (Nat × Nat)
  | _, [] => []
  | i, row :: T => hidR i 0 row ++ hidT (i + 1) T
theorem hidR_len (i : Nat) : ∀ (r : List Nat) (j : Nat), (hidR i j r).length = r.count 63
  | [], _ => rfl
  | c :: r, j => by
    unfold hidR
    rw [List.count_cons]
    by_cases h : c = 63
    · rw [if_pos h, List.length_cons, hidR_len i r]
      subst h
      rfl
    · rw [if_neg h, hidR_len i r, beq_eq_false_iff_ne.mpr h]
      rfl
theorem hidT_len : ∀ (T : Mo) (i : Nat), (hidT i T).length = (T.map (·.count 63)).sum
  | [], _ => rfl
  | row :: T, i => by
    unfold hidT
    rw [List.length_append, hidR_len, hidT_len T, List.map_cons, List.sum_cons]
theorem enD_map {X : Type} (e : X → D) : ∀ (xs : List X) (i : Nat), enD i (xs.map e) = (xs.zipIdx i).map fun p => .tup [.int (p.2 : Nat), e p.1]
  | [], _ => rfl
  | x :: xs, i => by
    rw [List.map_cons, List.zipIdx_cons, List.map_cons]
    show D.tup [.int (i : Nat), e x] :: enD (i + 1) (xs.map e) = _
    rw [enD_map e xs (i + 1)]
theorem dec2_tup (a b : D) : dec2 (.tup [a, b]) = some (a, b) := rfl
theorem hidR_zip (i : Nat) : ∀ (r : List Nat) (j : Nat), ((r.zipIdx j).filter fun p => p.1 == 63).map (fun p => plD (i, p.2)) = (hidR i j r).map plD
  | [], _ => rfl
  | c :: r, j => by
    rw [List.zipIdx_cons]
    unfold hidR
    by_cases h : c = 63
    · rw [if_pos h, List.filter_cons_of_pos (by rw [h]; rfl), List.map_cons, List.map_cons, hidR_zip i r]
    · rw [if_neg h, List.filter_cons_of_neg (by rw [beq_iff_eq]; exact h), hidR_zip i r]
theorem en_lst (xs : List D) : enW (.lst xs) = pure (enD 0 xs) := rfl
theorem en_tup (xs : List D) : enW (.tup xs) = pure (enD 0 xs) := rfl
theorem en_str (cs : List Nat) : enW (.str cs) = pure (enD 0 (cs.map fun c => .str [c])) := rfl
/-- the foldl of appended lists -/
theorem fold_app {X Y : Type} (f : X → List Y) : ∀ (xs : List X) (a : List Y), xs.foldl (fun a x => a ++ f x) a = a ++ xs.flatMap f
  | [], a => by simp
  | x :: xs, a => by rw [List.foldl_cons, fold_app f xs, List.flatMap_cons, List.append_assoc]
theorem hidT_zip : ∀ (T : Mo) (i : Nat), (T.zipIdx i).flatMap (fun p => (hidR p.2 0 p.1).map plD) = (hidT i T).map plD
  | [], _ => rfl
  | row :: T, i => by
    rw [List.zipIdx_cons, List.flatMap_cons, hidT_zip T]
    show _ = (hidR i 0 row ++ hidT (i + 1) T).map plD
    rw [List.map_append]
/-- what the loops over rows gather -/
theorem gather {body : D → (D × D) → M (Fl D D)} {T : Mo} (hT : ∀ row ∈ T, row.length ≤ 4) (hl : T.length ≤ 4)
    (hb : ∀ (i : Nat) (row : List Nat) (xs : List D), T[i]? = some row → xs.length ≤ 100 → body (.lst xs) (.int (i : Nat), .str row) = pure (.next (.lst (xs ++ (hidR i 0 row).map plD)))) :
    loopM dec2 body (enD 0 (T.map D.str)) (.lst []) = pure (.next (.lst ((hidT 0 T).map plD))) := by
  rw [enD_map]
  have := loop_map (dec := dec2) (body := body) (fun a : List D => D.lst a) (fun p : List Nat × Nat => .tup [.int (p.2 : Nat), .str p.1]) (fun a p => a ++ (hidR p.2 0 p.1).map plD) (fun k a => k ≤ 4 ∧ a.length ≤ 4 * k) (T.zipIdx 0) 0 [] (fun j x a hj ⟨h1, h2⟩ => ⟨_, dec2_tup _ _, ?_, ?_⟩) ⟨by omega, by simp⟩
  · rw [this.1, fold_app, List.nil_append, hidT_zip]
  · obtain ⟨row, i⟩ := x
    obtain ⟨h3, h4⟩ := List.getElem?_eq_some_iff.mp hj
    rw [List.getElem_zipIdx] at h4
    cases h4
    rw [List.length_zipIdx] at h3
    rw [Nat.zero_add] at h1 h2 ⊢
    exact hb _ _ _ (List.getElem?_eq_getElem h3) (by omega)
  · obtain ⟨row, i⟩ := x
    obtain ⟨h3, h4⟩ := List.getElem?_eq_some_iff.mp hj
    rw [List.getElem_zipIdx] at h4
    cases h4
    rw [List.length_zipIdx] at h3
    have := hT _ (List.getElem_mem h3)
    rw [List.length_append, List.length_map, hidR_len]
    have := List.count_le_length (a := 63) (l := T[j])
    dsimp only
    omega
theorem unknown_eq {T : Mo} (hT : ∀ row ∈ T, row.length ≤ 4) (hl : T.length ≤ 4) : m_unknown_places (mD T) = pure (.lst ((hidT 0 T).map plD)) := by
  unfold m_unknown_places mB_unknown_places mD
  simp (config := {implicitDefEqProofs := false}) only [M.pure_bind, M.bind_assoc, f_l0, en_tup]
  rw [gather hT hl]
  · rw [M.pure_bind, tl_next, M.pure_bind, r_ret]
  · intro i row xs hi hx
    have hr := hT row (List.mem_of_getElem? hi)
    simp (config := {implicitDefEqProofs := false}) only [M.pure_bind, M.bind_assoc, en_str]
    rw [enD_map, comp_map (dec := dec2) (fun p : Nat × Nat => .tup [.int (p.2 : Nat), .str [p.1]]) (fun p => p.1 == 63) (fun p => plD (i, p.2)) fun p _ => ⟨_, dec2_tup _ _, ?_, fun _ => ?_⟩]
    · rw [hidR_zip]
      have h3 := hidR_len i row 0
      have := List.count_le_length (a := 63) (l := row)
      rw [M.pure_bind, f_lst (by rw [List.length_map]; omega), M.pure_bind, add_ll (by rw [List.length_map]; omega), M.pure_bind]
    · rw [eq_ss, M.pure_bind, b_as, beq1]
    · rw [mk_t2]
      rfl
theorem hidden_range (i : Nat) (row : List Nat) : (((List.range row.length).filter fun j => row[j]? == some 63).map fun j => plD (i, j)) = (hidR i 0 row).map plD := by
  have key : ∀ (suf pre : List Nat), (((List.range' pre.length suf.length).filter fun j => (pre ++ suf)[j]? == some 63).map fun j => plD (i, j)) = (hidR i pre.length suf).map plD := by
    intro suf
    induction suf with
    | nil => intro pre; rfl
    | cons c suf ih =>
      intro pre
      have e := ih (pre ++ [c])
      rw [List.append_assoc, List.length_append, List.length_singleton, List.singleton_append] at e
      rw [List.length_cons, List.range'_succ]
      unfold hidR
      have h0 : (pre ++ c :: suf)[pre.length]? = some c := by rw [List.getElem?_append_right (Nat.le_refl _), Nat.sub_self]; rfl
      by_cases h : c = 63
      · rw [if_pos h, List.filter_cons_of_pos (by rw [h0, h]; rfl), List.map_cons, List.map_cons, e]
      · rw [if_neg h, List.filter_cons_of_neg (by rw [h0]; simpa using h), e]
  have := key row []
  rw [List.nil_append, List.length_nil] at this
  rw [List.range_eq_range']
  exact this
theorem hidden_eq {T : Mo} (hT : ∀ row ∈ T, row.length ≤ 4) (hl : T.length ≤ 4) : m__law_hidden (mD T) = pure (.lst ((hidT 0 T).map plD)) := by
  unfold m__law_hidden mB__law_hidden mD
  simp (config := {implicitDefEqProofs := false}) only [M.pure_bind, M.bind_assoc, f_l0, en_tup]
  rw [gather hT hl]
  · rw [M.pure_bind, tl_next, M.pure_bind, r_ret]
  · intro i row xs hi hx
    have hr := hT row (List.mem_of_getElem? hi)
    simp (config := {implicitDefEqProofs := false}) only [M.pure_bind, M.bind_assoc, s_len]
    rw [rng_1 ⟨by omega, by omega⟩, M.pure_bind]
    unfold upFrom
    rw [Int.toNat_natCast, comp_map (dec := dec1) (fun j : Nat => D.int (0 + (j : Int))) (fun j => row[j]? == some 63) (fun j => plD (i, j)) fun j hj => ⟨_, rfl, ?_, fun _ => ?_⟩]
    · rw [hidden_range]
      have h3 := hidR_len i row 0
      have := List.count_le_length (a := 63) (l := row)
      rw [M.pure_bind, f_lst (by rw [List.length_map]; omega), M.pure_bind, add_ll (by rw [List.length_map]; omega), M.pure_bind]
    · have hj' := List.mem_range.mp hj
      rw [Int.zero_add, ix_str (at_nat (List.getElem?_eq_getElem hj')), M.pure_bind, eq_ss, M.pure_bind, b_as, beq1, List.getElem?_eq_getElem hj']
      rfl
    · rw [mk_t2, Int.zero_add]
      rfl
/-! ### another sign at a place -/
def setAt (T : Mo) (p : Nat × Nat) (c : Nat) : Mo := match T[p.1]? with
  | some row => T.set p.1 (row.set p.2 c)
  | none => T
theorem cut_to {α : Type} (xs : List α) (k : Nat) : cutL xs none (some (k : Int)) = xs.take k := by
  unfold cutL
  rw [HT.sIx_none, HT.sIx_nat, List.drop_zero, Nat.sub_zero]
  by_cases h : k ≤ xs.length
  · rw [Nat.min_eq_left h]
  · rw [Nat.min_eq_right (by omega), List.take_of_length_le (by omega), List.take_of_length_le (by omega)]
theorem cut_from {α : Type} (xs : List α) (k : Nat) : cutL xs (some (k : Int)) none = xs.drop k := by
  unfold cutL
  rw [HT.sIx_none, HT.sIx_nat]
  by_cases h : k ≤ xs.length
  · rw [Nat.min_eq_left h, List.take_of_length_le (by rw [List.length_drop]; omega)]
  · rw [Nat.min_eq_right (by omega), List.drop_eq_nil_of_le (Nat.le_refl _), List.drop_eq_nil_of_le (as := xs) (by omega), List.take_nil]
theorem add_ss {a b : List Nat} (h : a.length + b.length ≤ 16777216) : dAdd (.str a) (.str b) = pure (.str (a ++ b)) := if_pos h
theorem sl_str (cs : List Nat) (lo hi : Option Int) : dSlice (.str cs) lo hi = pure (.str (cutL cs lo hi)) := rfl
theorem sl_tup (cs : List D) (lo hi : Option Int) : dSlice (.tup cs) lo hi = pure (.tup (cutL cs lo hi)) := rfl
theorem sl_lst (cs : List D) (lo hi : Option Int) : dSlice (.lst cs) lo hi = pure (.lst (cutL cs lo hi)) := rfl
theorem set_cut {α : Type} (xs : List α) (k : Nat) (a : α) (h : k < xs.length) : xs.take k ++ [a] ++ xs.drop (k + 1) = xs.set k a := by
  rw [List.set_eq_take_append_cons_drop, if_pos h, List.append_assoc]
  rfl
theorem with_eq {T : Mo} {i j c : Nat} {row : List Nat} (hi : T[i]? = some row) (hj : j < row.length) (hr : row.length ≤ 4) (hT : T.length ≤ 4) : m_with_sign (mD T) (plD (i, j)) (.str [c]) = pure (mD (setAt T (i, j) c)) := by
  have hlt : i < T.length := (List.getElem?_eq_some_iff.mp hi).1
  have x0 : dIndex (plD (i, j)) (.int 0) = pure (.int (i : Nat)) := ix_tup rfl
  have x1 : dIndex (plD (i, j)) (.int 1) = pure (.int (j : Nat)) := ix_tup rfl
  have xr : dIndex (mD T) (.int (i : Nat)) = pure (.str row) := ix_tup (at_nat (by rw [List.getElem?_map, hi]; rfl))
  unfold m_with_sign mB_with_sign
  simp (config := {implicitDefEqProofs := false}) only [M.pure_bind, M.bind_assoc, x0, x1, xr, as_i, sl_str, ii_add]
  have k1 := cutL_len row none (some (j : Int))
  have k2 := cutL_len row (some ((j : Int) + 1)) none
  have s1 : dAdd (.str (cutL row none (some (j : Int)))) (.str [c]) = pure (.str (cutL row none (some (j : Int)) ++ [c])) := add_ss (by rw [List.length_singleton]; omega)
  have s2 : dAdd (.str (cutL row none (some (j : Int)) ++ [c])) (.str (cutL row (some ((j : Int) + 1)) none)) = pure (.str (cutL row none (some (j : Int)) ++ [c] ++ cutL row (some ((j : Int) + 1)) none)) := add_ss (by rw [List.length_append, List.length_singleton]; omega)
  unfold mD
  simp (config := {implicitDefEqProofs := false}) only [M.pure_bind, M.bind_assoc, s1, s2, sl_tup, mk_t1]
  have l1 := cutL_len (T.map D.str) none (some (i : Int))
  have l2 := cutL_len (T.map D.str) (some ((i : Int) + 1)) none
  rw [List.length_map] at l1 l2
  rw [add_tt (by rw [List.length_singleton]; omega), M.pure_bind, add_tt (by rw [List.length_append, List.length_singleton]; omega), M.pure_bind, r_ret]
  unfold setAt
  rw [hi]
  rw [show ((j : Int) + 1) = ((j + 1 : Nat) : Int) by omega, show ((i : Int) + 1) = ((i + 1 : Nat) : Int) by omega, cut_to, cut_from, cut_to, cut_from, set_cut row j c hj, set_cut _ i _ (by rw [List.length_map]; exact hlt), List.map_set]
/-! ### fillings -/
def opts (c : Nat) : List Nat := if c = 63 then [43, 45, 48] else [c]
/-- all texts -/
def ex : List Nat → List (List Nat)
  | [] => [[]]
  | c :: r => (opts c).flatMap fun a => (ex r).map (a :: ·)
def exT : Mo → List Mo
  | [] => [[]]
  | row :: T => (ex row).flatMap fun r => (exT T).map (r :: ·)
def fillStep (F : List Mo) (p : Nat × Nat) : List Mo := F.flatMap fun one => [43, 45, 48].map (setAt one p)
theorem fill_app (ps : List (Nat × Nat)) : ∀ (F G : List Mo), ps.foldl fillStep (F ++ G) = ps.foldl fillStep F ++ ps.foldl fillStep G := by
  induction ps with
  | nil => intro F G; rfl
  | cons p ps ih =>
    intro F G
    rw [List.foldl_cons, List.foldl_cons, List.foldl_cons, ← ih]
    unfold fillStep
    rw [List.flatMap_append]
theorem setAt_mid (pre T : Mo) (rp rs : List Nat) (c a : Nat) : setAt (pre ++ (rp ++ c :: rs) :: T) (pre.length, rp.length) a = pre ++ (rp ++ a :: rs) :: T := by
  unfold setAt
  have e : (pre ++ (rp ++ c :: rs) :: T)[pre.length]? = some (rp ++ c :: rs) := by rw [List.getElem?_append_right (Nat.le_refl _), Nat.sub_self]; rfl
  dsimp only
  rw [e]
  dsimp only
  rw [List.set_append_right _ _ (Nat.le_refl _), Nat.sub_self, List.set_cons_zero, List.set_append_right _ _ (Nat.le_refl _), Nat.sub_self, List.set_cons_zero]
theorem fill_row (pre T : Mo) : ∀ (rs rp : List Nat), (hidR pre.length rp.length rs).foldl fillStep [pre ++ (rp ++ rs) :: T] = (ex rs).map fun r => pre ++ (rp ++ r) :: T
  | [], rp => rfl
  | c :: rs, rp => by
    unfold hidR ex opts
    have ih := fun a => fill_row pre T rs (rp ++ [a])
    simp only [List.length_append, List.length_singleton, List.append_assoc, List.singleton_append] at ih
    by_cases h : c = 63
    · rw [if_pos h, if_pos h, List.foldl_cons]
      have e : fillStep [pre ++ (rp ++ c :: rs) :: T] (pre.length, rp.length) = [pre ++ (rp ++ 43 :: rs) :: T] ++ ([pre ++ (rp ++ 45 :: rs) :: T] ++ [pre ++ (rp ++ 48 :: rs) :: T]) := by
        unfold fillStep
        simp only [List.flatMap_cons, List.flatMap_nil, List.append_nil, List.map_cons, List.map_nil, setAt_mid]
        rfl
      rw [e, fill_app, fill_app, ih, ih, ih]
      simp only [List.flatMap_cons, List.flatMap_nil, List.append_nil, List.map_append, List.map_map]
      rfl
    · rw [if_neg h, if_neg h, ih c]
      simp only [List.flatMap_cons, List.flatMap_nil, List.append_nil, List.map_map]
      rfl
theorem fill_list (ps : List (Nat × Nat)) : ∀ (F : List Mo), ps.foldl fillStep F = F.flatMap fun x => ps.foldl fillStep [x]
  | [] => by
    have : ∀ ps : List (Nat × Nat), ps.foldl fillStep [] = [] := fun ps => by
      induction ps with
      | nil => rfl
      | cons p ps ih => exact ih
    rw [this]; rfl
  | x :: F => by
    rw [show x :: F = [x] ++ F from rfl, fill_app, fill_list ps F]
    rfl
theorem fill_all : ∀ (T pre : Mo), (hidT pre.length T).foldl fillStep [pre ++ T] = (exT T).map (pre ++ ·)
  | [], pre => rfl
  | row :: T, pre => by
    unfold hidT exT
    have e := fill_row pre T row []
    rw [List.length_nil, List.nil_append] at e
    rw [List.foldl_append, e, fill_list, List.flatMap_map, List.map_flatMap]
    congr 1
    funext r
    have ih := fill_all T (pre ++ [r])
    rw [List.length_append, List.length_singleton, List.append_assoc] at ih
    rw [List.nil_append]
    show (hidT (pre.length + 1) T).foldl fillStep [pre ++ ([r] ++ T)] = _
    rw [ih, List.map_map]
    congr 1
    funext t
    rw [Function.comp, List.append_assoc]
    rfl
end My
/-! KP9: the fillings told, by the program and by the law. -/
namespace My
open PySem PySem.Spec PyProof.Rows L2 DL DH
open TL (joinL)

/-- as many rows, as long -/
def Shp (T T' : Mo) : Prop := T'.map List.length = T.map List.length
theorem Shp.len {T T' : Mo} (h : Shp T T') : T'.length = T.length := by
  have := congrArg List.length h
  rw [List.length_map, List.length_map] at this
  exact this
theorem Shp.at {T T' : Mo} (h : Shp T T') {i : Nat} {row : List Nat} (hi : T[i]? = some row) : ∃ row', T'[i]? = some row' ∧ row'.length = row.length := by
  have e : (T'.map List.length)[i]? = (T.map List.length)[i]? := by rw [show T'.map List.length = T.map List.length from h]
  rw [List.getElem?_map, List.getElem?_map, hi] at e
  cases h2 : T'[i]? with
  | none => rw [h2] at e; cases e
  | some r => rw [h2] at e; exact ⟨r, rfl, Option.some.inj e⟩
theorem Shp.set {T T' : Mo} (h : Shp T T') (p : Nat × Nat) (c : Nat) : Shp T (setAt T' p c) := by
  unfold setAt
  cases e : T'[p.1]? with
  | none => exact h
  | some row =>
    dsimp only
    unfold Shp
    rw [List.map_set, List.length_set, ← h]
    refine List.ext_getElem? fun i => ?_
    by_cases hi : p.1 = i
    · subst hi
      have hl := (List.getElem?_eq_some_iff.mp e).1
      rw [List.getElem?_set_self (by rw [List.length_map]; exact hl), List.getElem?_map, e]
      rfl
    · rw [List.getElem?_set_ne hi]
theorem hidR_in {i : Nat} {p : Nat × Nat} : ∀ {r : List Nat} {j : Nat}, p ∈ hidR i j r → p.1 = i ∧ j ≤ p.2 ∧ p.2 < j + r.length
  | [], _, h => nomatch h
  | c :: r, j, h => by
    unfold hidR at h
    by_cases hc : c = 63
    · rw [if_pos hc] at h
      rcases List.mem_cons.mp h with e | h
      · subst e
        exact ⟨rfl, Nat.le_refl _, by rw [List.length_cons]; exact Nat.lt_add_of_pos_right (Nat.succ_pos _)⟩
      · have := hidR_in h
        rw [List.length_cons]
        omega
    · rw [if_neg hc] at h
      have := hidR_in h
      rw [List.length_cons]
      omega
theorem hidT_in {p : Nat × Nat} : ∀ {T : Mo} {i : Nat}, p ∈ hidT i T → i ≤ p.1 ∧ ∃ row, T[p.1 - i]? = some row ∧ p.2 < row.length
  | [], _, h => nomatch h
  | row :: T, i, h => by
    unfold hidT at h
    rcases List.mem_append.mp h with h | h
    · have := hidR_in h
      refine ⟨by omega, row, ?_, by omega⟩
      rw [this.1, Nat.sub_self]
      rfl
    · obtain ⟨h1, r, h2, h3⟩ := hidT_in h
      refine ⟨by omega, r, ?_, h3⟩
      rw [show p.1 - i = (p.1 - (i + 1)) + 1 by omega, List.getElem?_cons_succ]
      exact h2
theorem known_w : asW k_KNOWN_SIGNS = pure ([43, 45, 48].map fun c => D.str [c]) := rfl
theorem alike_strs : ∀ (xs ys : List (List Nat)), PySem.W.alikeAll (toPys (xs.map D.str)) (toPys (ys.map D.str)) = true
  | [], _ => by
    rw [List.map_nil, toPys]
    unfold PySem.W.alikeAll
    rfl
  | x :: xs, [] => by
    rw [List.map_nil, List.map_cons, toPys, toPys]
    unfold PySem.W.alikeAll
    rfl
  | x :: xs, y :: ys => by
    rw [List.map_cons, List.map_cons, toPys, toPys, toPy, toPy]
    unfold PySem.W.alikeAll PySem.W.alike
    rw [alike_strs xs ys]
    rfl
theorem mD_ok {n : Nat} (T : Mo) : okD (n + 1) (mD T) = true := ok_tup.mpr fun d hd => by
  obtain ⟨cs, _, rfl⟩ := List.mem_map.mp hd
  exact ok_str _
theorem sort_ok {F : List Mo} (h : ∀ T ∈ F, T ≠ []) : sortOk (F.map mD) = true := by
  unfold sortOk
  rw [Bool.and_eq_true, Bool.and_eq_true, Bool.or_eq_true]
  refine ⟨⟨okDs_iff.mpr fun d hd => ?_, List.all_eq_true.mpr fun x hx => List.all_eq_true.mpr fun y hy => ?_⟩, .inl (List.all_eq_true.mpr fun x hx => ?_)⟩
  · obtain ⟨T, _, rfl⟩ := List.mem_map.mp hd
    exact mD_ok T
  · obtain ⟨T, _, rfl⟩ := List.mem_map.mp hx
    obtain ⟨T', _, rfl⟩ := List.mem_map.mp hy
    unfold mD
    rw [toPy, toPy]
    unfold PySem.W.alike
    exact alike_strs T T'
  · obtain ⟨T, hT, rfl⟩ := List.mem_map.mp hx
    cases T with
    | nil => exact absurd rfl (h _ hT)
    | cons _ _ => rfl
theorem srt_len (xs : List D) : (srt xs).length = xs.length := List.length_mergeSort xs
theorem srt_mem {xs : List D} {d : D} : d ∈ srt xs ↔ d ∈ xs := List.mem_mergeSort
theorem pow3 {k : Nat} (h : k ≤ 4) : 3 ^ k ≤ 81 := Nat.pow_le_pow_right (n := 3) (by decide) h
/-- a model's frame: up to four rows of up to four -/
structure Sm (T : Mo) : Prop where
  len : T.length ≤ 4
  row : ∀ row ∈ T, row.length ≤ 4
  few : (hidT 0 T).length ≤ 4
  ne : T ≠ []
theorem Shp.row {T T' : Mo} (h : Shp T T') (hT : Sm T) : ∀ row ∈ T', row.length ≤ 4 := fun row hr => by
  obtain ⟨i, hi⟩ := List.mem_iff_getElem?.mp hr
  obtain ⟨row', h1, h2⟩ := Shp.at (T := T') (T' := T) h.symm hi
  have := hT.row row' (List.mem_of_getElem? h1)
  omega
theorem fill_shape {T : Mo} {F : List Mo} {p : Nat × Nat} (h : ∀ T' ∈ F, Shp T T') : ∀ T' ∈ fillStep F p, Shp T T' := fun T' hT' => by
  unfold fillStep at hT'
  obtain ⟨one, h1, h2⟩ := List.mem_flatMap.mp hT'
  obtain ⟨c, _, rfl⟩ := List.mem_map.mp h2
  exact (h one h1).set p c
theorem fill_len (F : List Mo) (p : Nat × Nat) : (fillStep F p).length = 3 * F.length := by
  unfold fillStep
  induction F with
  | nil => rfl
  | cons one F ih => rw [List.flatMap_cons, List.length_append, ih, List.length_map, List.length_cons, List.length_cons]; simp; omega
theorem sorted_new {F : List Mo} (h : ∀ T ∈ F, T ≠ []) : dSorted newC (.lst (F.map mD)) = newC (srt (F.map mD)) := by
  show (if sortOk (F.map mD) = true then newC (srt (F.map mD)) else M.stuck) = _
  rw [if_pos (sort_ok h)]
theorem sorted_lst {F : List Mo} (h : ∀ T ∈ F, T ≠ []) : dSorted fLst (.lst (F.map mD)) = fLst (srt (F.map mD)) := by
  show (if sortOk (F.map mD) = true then fLst (srt (F.map mD)) else M.stuck) = _
  rw [if_pos (sort_ok h)]
theorem shp_ne {T T' : Mo} (hT : Sm T) (h : Shp T T') : T' ≠ [] := fun e => by
  have := h.len
  rw [e] at this
  have h2 := hT.ne
  cases T with
  | nil => exact h2 rfl
  | cons _ _ => cases this
theorem exT_is (T : Mo) : (hidT 0 T).foldl fillStep [T] = exT T := by
  have hf := fill_all T []
  rw [List.length_nil, List.nil_append] at hf
  rw [hf]
  exact List.map_id _
theorem fold_all {T : Mo} (hT : Sm T) : (exT T).length ≤ 81 ∧ ∀ T' ∈ exT T, Shp T T' := by
  have key : ∀ (ps : List (Nat × Nat)) (F : List Mo), (∀ T' ∈ F, Shp T T') → (ps.foldl fillStep F).length = 3 ^ ps.length * F.length ∧ ∀ T' ∈ ps.foldl fillStep F, Shp T T' := by
    intro ps
    induction ps with
    | nil => intro F h; exact ⟨by simp, h⟩
    | cons p ps ih =>
      intro F h
      obtain ⟨h1, h2⟩ := ih (fillStep F p) (fill_shape h)
      refine ⟨?_, h2⟩
      rw [List.foldl_cons, h1, fill_len, List.length_cons, Nat.pow_succ, Nat.mul_assoc]
  obtain ⟨h1, h2⟩ := key (hidT 0 T) [T] fun T' h => by rw [List.mem_singleton.mp h]; rfl
  rw [exT_is] at h1 h2
  refine ⟨?_, h2⟩
  rw [h1, List.length_singleton, Nat.mul_one]
  exact pow3 hT.few
theorem fillings_eq {T : Mo} (hT : Sm T) (st : Store) : m_all_fillings (mD T) st = .ok (.ref st.length) (st ++ [.lst (srt ((exT T).map mD))]) := by
  unfold m_all_fillings mB_all_fillings
  simp (config := {implicitDefEqProofs := false}) only [f_lst (xs := [mD T]) (show (1 : Nat) ≤ 16777216 by decide), M.pure_bind, M.bind_assoc, m1, unknown_eq hT.row hT.len, w_lst]
  show (loopM dec1 _ ((hidT 0 T).map plD) ((fun a : List Mo => D.lst (a.map mD)) [T]) >>= _) st = _
  refine loop_then (fun a : List Mo => D.lst (a.map mD)) plD fillStep (fun k a => a.length = 3 ^ k ∧ ∀ T' ∈ a, Shp T T') (hidT 0 T) [T] ⟨rfl, fun T' h => by rw [List.mem_singleton.mp h]; rfl⟩ (fun j p a hj ⟨ha, hS⟩ => ⟨_, rfl, ?_, by rw [fill_len, ha, Nat.pow_succ]; omega, fill_shape hS⟩) fun ⟨_, _⟩ => ?_
  · have hj2 := (List.getElem?_eq_some_iff.mp hj).1
    have := hT.few
    have h3 : 3 ^ j ≤ 27 := Nat.pow_le_pow_right (n := 3) (j := 3) (by decide) (by omega)
    obtain ⟨_, row, h1, h2⟩ := hidT_in (List.mem_of_getElem? hj)
    rw [Nat.sub_zero] at h1
    rw [f_l0, M.pure_bind, w_lst, M.pure_bind]
    funext st
    show (loopM dec1 _ (a.map mD) ((fun a : List Mo => D.lst (a.map mD)) []) >>= _) st = _
    refine loop_then (fun a : List Mo => D.lst (a.map mD)) mD (fun a one => a ++ [43, 45, 48].map (setAt one p)) (fun k b => b.length = 3 * k ∧ k ≤ a.length) a [] ⟨rfl, by omega⟩ (fun j one b hj ⟨hb, hk⟩ => ⟨_, rfl, ?_, ?_, ?_⟩) fun ⟨_, _⟩ => ?_
    · have hS1 := hS one (List.mem_of_getElem? hj)
      obtain ⟨row', g1, g2⟩ := hS1.at h1
      have g3 := hS1.row hT row' (List.mem_of_getElem? g1)
      have g4 := hS1.len
      simp (config := {implicitDefEqProofs := false}) only [M.pure_bind, M.bind_assoc, known_w, m3]
      rw [comp_all (dec := dec1) (fun c => D.str [c]) (fun c => mD (setAt one p c)) fun c _ => ⟨_, rfl, with_eq (i := p.1) (j := p.2) g1 (by omega) g3 (by have := hT.len; omega)⟩, M.pure_bind, f_lst (by simp), M.pure_bind, add_ll (by rw [List.length_map, List.length_map]; simp; omega), M.pure_bind, List.map_append, List.map_map]
      rfl
    · rw [List.length_append, List.length_map, hb]; simp; omega
    · have := (List.getElem?_eq_some_iff.mp hj).1
      omega
    · rw [tl_next, fold_app, List.nil_append]
      rfl
  · rw [exT_is, tl_next]
    obtain ⟨h1, h2⟩ := fold_all hT
    simp (config := {implicitDefEqProofs := false}) only [M.pure_bind, M.bind_assoc]
    rw [sorted_new fun T' h => shp_ne hT (h2 T' h), bind_ok (n_cel (by rw [srt_len, List.length_map]; omega))]
    rfl
end My
/-! KP10: the law's fillings. -/
namespace My
open PySem PySem.Spec PyProof.Rows L2 DL DH
open TL (joinL)

def exStep (F : List (List Nat)) (c : Nat) : List (List Nat) := F.flatMap fun t => (opts c).map fun a => t ++ [a]
theorem ex_fold : ∀ (X : List Nat) (F : List (List Nat)), X.foldl exStep F = F.flatMap fun t => (ex X).map (t ++ ·)
  | [], F => by
    unfold ex
    simp
  | c :: X, F => by
    rw [List.foldl_cons, ex_fold X]
    rw [show ex (c :: X) = (opts c).flatMap fun a => (ex X).map (a :: ·) from rfl]
    unfold exStep
    rw [List.flatMap_assoc]
    congr 1
    funext t
    rw [List.flatMap_map, List.map_flatMap]
    congr 1
    funext a
    rw [List.map_map]
    congr 1
    funext s
    simp
theorem ex_append (a b : List Nat) : ex (a ++ b) = (ex a).flatMap fun x => (ex b).map (x ++ ·) := by
  have h1 := ex_fold (a ++ b) [[]]
  rw [List.foldl_append, ex_fold a, ex_fold b] at h1
  simpa using h1.symm
theorem ex_lf (b : List Nat) : ex (10 :: b) = (ex b).map (10 :: ·) := by
  rw [ex]
  show [10].flatMap _ = _
  simp
theorem exT_ne {T : Mo} (h : T ≠ []) : ∀ T' ∈ exT T, T' ≠ [] := by
  cases T with
  | nil => exact absurd rfl h
  | cons row T =>
    intro T' hT'
    unfold exT at hT'
    obtain ⟨r, _, hr⟩ := List.mem_flatMap.mp hT'
    obtain ⟨t, _, rfl⟩ := List.mem_map.mp hr
    exact List.cons_ne_nil _ _
theorem ex_join : ∀ T : Mo, T ≠ [] → ex (joinL [10] T) = (exT T).map (joinL [10])
  | [], h => absurd rfl h
  | [row], _ => by
    show ex row = (exT [row]).map (joinL [10])
    unfold exT exT
    simp only [List.map_cons, List.map_nil, List.map_flatMap]
    show _ = (ex row).flatMap fun r => [r]
    simp
  | row :: q :: T, _ => by
    show ex (row ++ ([10] ++ joinL [10] (q :: T))) = _
    rw [ex_append, List.singleton_append, ex_lf, ex_join (q :: T) (List.cons_ne_nil _ _)]
    rw [show exT (row :: q :: T) = (ex row).flatMap fun r => (exT (q :: T)).map (r :: ·) from rfl, List.map_flatMap]
    congr 1
    funext r
    rw [List.map_map, List.map_map, List.map_map]
    refine List.map_congr_left fun t ht => ?_
    have hne := exT_ne (List.cons_ne_nil q T) t ht
    cases t with
    | nil => exact absurd rfl hne
    | cons x t => rfl
theorem ex_mem : ∀ {X t : List Nat}, t ∈ ex X → t.length = X.length ∧ ∀ c ∈ t, c ∈ X ∨ c = 43 ∨ c = 45 ∨ c = 48
  | [], t, h => by
    unfold ex at h
    rw [List.mem_singleton.mp h]
    exact ⟨rfl, fun _ h => nomatch h⟩
  | c :: X, t, h => by
    unfold ex at h
    obtain ⟨a, ha, h⟩ := List.mem_flatMap.mp h
    obtain ⟨s, hs, rfl⟩ := List.mem_map.mp h
    obtain ⟨h1, h2⟩ := ex_mem hs
    refine ⟨by rw [List.length_cons, List.length_cons, h1], fun d hd => ?_⟩
    rcases List.mem_cons.mp hd with e | hd
    · subst e
      unfold opts at ha
      by_cases hc : c = 63
      · rw [if_pos hc] at ha
        simp at ha
        exact .inr ha
      · rw [if_neg hc] at ha
        exact .inl (by rw [List.mem_singleton.mp ha]; exact List.mem_cons_self)
    · rcases h2 d hd with q | q
      · exact .inl (List.mem_cons_of_mem _ q)
      · exact .inr q
theorem exT_mem : ∀ {T T' : Mo}, T' ∈ exT T → T'.length = T.length ∧ ∀ (i : Nat) (r : List Nat), T'[i]? = some r → ∃ r0, T[i]? = some r0 ∧ r ∈ ex r0
  | [], T', h => by
    unfold exT at h
    rw [List.mem_singleton.mp h]
    exact ⟨rfl, fun _ _ h => nomatch h⟩
  | row :: T, T', h => by
    unfold exT at h
    obtain ⟨a, ha, h⟩ := List.mem_flatMap.mp h
    obtain ⟨s, hs, rfl⟩ := List.mem_map.mp h
    obtain ⟨h1, h2⟩ := exT_mem hs
    refine ⟨by rw [List.length_cons, List.length_cons, h1], fun i r hr => ?_⟩
    cases i with
    | zero => cases hr; exact ⟨row, rfl, ha⟩
    | succ i => exact h2 i r hr
/-- no line feed within -/
def NoLf (T : Mo) : Prop := ∀ row ∈ T, ∀ c ∈ row, c ≠ 10
theorem exT_lf {T T' : Mo} (h : NoLf T) (hT : T' ∈ exT T) : ∀ row ∈ T', 10 ∉ row := fun row hr hc => by
  obtain ⟨i, hi⟩ := List.mem_iff_getElem?.mp hr
  obtain ⟨r0, h1, h2⟩ := (exT_mem hT).2 i row hi
  rcases (ex_mem h2).2 10 hc with q | q | q | q
  · exact h r0 (List.mem_of_getElem? h1) 10 q rfl
  · cases q
  · cases q
  · cases q
theorem exStep_len (F : List (List Nat)) (c : Nat) : (exStep F c).length = (if c = 63 then 3 else 1) * F.length := by
  unfold exStep
  induction F with
  | nil => rfl
  | cons t F ih =>
    rw [List.flatMap_cons, List.length_append, ih, List.length_map, List.length_cons]
    unfold opts
    by_cases h : c = 63
    · rw [if_pos h, if_pos h]; simp; omega
    · rw [if_neg h, if_neg h]; simp; omega
theorem join_len : ∀ T : Mo, T.length ≤ 4 → (∀ row ∈ T, row.length ≤ 4) → (joinL [10] T).length ≤ 5 * T.length
  | [], _, _ => Nat.zero_le _
  | [row], _, h => by have := h row List.mem_cons_self; show row.length ≤ 5; omega
  | row :: q :: T, h1, h2 => by
    have ih := join_len (q :: T) (by rw [List.length_cons] at h1; omega) fun r hr => h2 r (List.mem_cons_of_mem _ hr)
    have := h2 row List.mem_cons_self
    show (row ++ ([10] ++ joinL [10] (q :: T))).length ≤ _
    rw [List.length_append, List.length_append, List.length_cons (a := row)]
    simp only [List.length_singleton]
    omega
theorem join_cnt : ∀ T : Mo, (joinL [10] T).count 63 = (T.map (·.count 63)).sum
  | [] => rfl
  | [row] => by show row.count 63 = _; simp
  | row :: q :: T => by
    have ih := join_cnt (q :: T)
    show (row ++ ([10] ++ joinL [10] (q :: T))).count 63 = _
    rw [List.count_append, List.count_append, ih, List.map_cons (a := row), List.sum_cons]
    simp
theorem rows_sum : ∀ T : Mo, (∀ row ∈ T, row.length ≤ 4) → (T.map List.length).sum ≤ 4 * T.length
  | [], _ => Nat.zero_le _
  | row :: T, h => by
    have := rows_sum T fun r hr => h r (List.mem_cons_of_mem _ hr)
    have := h row List.mem_cons_self
    rw [List.map_cons, List.sum_cons, List.length_cons]
    omega
theorem join_rows10 {T : Mo} (h1 : T.length ≤ 4) (h2 : ∀ row ∈ T, row.length ≤ 4) : dJoin (.str [10]) (.lst (T.map D.str)) = pure (.str (joinL [10] T)) := by
  show (asL (.lst (T.map D.str)) >>= fun xs => ofO (strsOf xs) >>= fun ys => if joinOk [10] ys = true then pure (D.str (joinL [10] ys)) else M.stuck) = _
  show (ofO (strsOf (T.map D.str)) >>= fun ys => if joinOk [10] ys = true then pure (D.str (joinL [10] ys)) else M.stuck) = _
  rw [strsOf_map, ofO_some, M.pure_bind, if_pos]
  have : (T.map (·.length)).sum ≤ 4 * T.length := rows_sum T h2
  unfold joinOk
  rw [decide_eq_true_eq, List.length_singleton]
  omega
theorem split_rows {T : Mo} (h0 : T ≠ []) (h1 : T.length ≤ 4) (h2 : ∀ row ∈ T, row.length ≤ 4) (h3 : ∀ row ∈ T, 10 ∉ row) : dSplit fLst (.str (joinL [10] T)) (.str [10]) = pure (.lst (T.map D.str)) := by
  show (if splOk (joinL [10] T) [10] = true then fLst ((TL.spl [10] 0 [] (joinL [10] T)).map D.str) else M.stuck) = _
  rw [if_pos, TL.spl_join h0 h3, f_lst (by rw [List.length_map]; omega)]
  unfold splOk
  have := join_len T h1 h2
  rw [Bool.and_eq_true, Bool.and_eq_true, decide_eq_true_eq, decide_eq_true_eq]
  exact ⟨⟨rfl, by omega⟩, TL.kind_ok (by rw [← Array.all_toList]; decide)⟩
theorem cnt_take {X : List Nat} {k c : Nat} (h : X[k]? = some c) : (X.take (k + 1)).count 63 = (X.take k).count 63 + (if c = 63 then 1 else 0) := by
  rw [List.take_succ, h, List.count_append]
  by_cases hc : c = 63
  · rw [if_pos hc, hc]; rfl
  · rw [if_neg hc]
    show _ + [c].count 63 = _
    rw [List.count_singleton, if_neg (by rw [beq_iff_eq]; exact hc)]
theorem l_list (xs : List D) : dList fLst (.tup xs) = fLst xs := rfl
theorem filled_eq {T : Mo} (hT : Sm T) (hn : NoLf T) : m__law_filled (mD T) = pure (.lst (srt ((exT T).map mD))) := by
  have hX : ((joinL [10] T).count 63) ≤ 4 := by
    rw [join_cnt, ← hidT_len T 0]
    exact hT.few
  have hS : ∀ a b : List Nat, isS (.str a) = pure () := fun a _ => rfl
  have jl := join_len T hT.len hT.row
  have hl := hT.len
  obtain ⟨a1, a2⟩ := fold_all hT
  unfold m__law_filled mB__law_filled
  simp (config := {implicitDefEqProofs := false}) only [M.pure_bind, M.bind_assoc, isS_s, f_lst (xs := [D.str []]) (show (1 : Nat) ≤ 16777216 by decide)]
  unfold mD
  rw [l_list, f_lst (by rw [List.length_map]; omega), M.pure_bind, join_rows10 hT.len hT.row, M.pure_bind, w_str, M.pure_bind]
  funext st
  show (loopM dec1 _ ((joinL [10] T).map fun c => D.str [c]) ((fun a : List (List Nat) => D.lst (a.map D.str)) [[]]) >>= _) st = _
  refine loop_then (fun a : List (List Nat) => D.lst (a.map D.str)) (fun c => D.str [c]) exStep (fun k F => F.length = 3 ^ (((joinL [10] T).take k).count 63) ∧ ∀ t ∈ F, t.length ≤ k) (joinL [10] T) [[]] ⟨rfl, fun t h => by rw [List.mem_singleton.mp h]; exact Nat.zero_le _⟩ (fun j c F hj ⟨h1, h3⟩ => ⟨_, rfl, ?_, ?_, fun t ht => ?_⟩) fun ⟨_, _⟩ => ?_
  · have hj2 := (List.getElem?_eq_some_iff.mp hj).1
    have hF : F.length ≤ 81 := by
      rw [h1]
      exact pow3 (Nat.le_trans (List.Sublist.count_le 63 (List.take_sublist j _)) hX)
    have hc : (if (c == 63) = true then pure (D.str [43, 45, 48]) else pure (D.str [c]) : M D) = pure (.str (opts c)) := by
      unfold opts
      by_cases h : c = 63
      · rw [if_pos (beq_iff_eq.mpr h), if_pos h]
      · rw [if_neg (by rw [beq_iff_eq]; exact h), if_neg h]
    simp (config := {implicitDefEqProofs := false}) only [M.pure_bind, M.bind_assoc, f_l0, w_lst, eq_ss, b_as, beq1, hc, w_str]
    funext st
    show (loopM dec1 _ (F.map D.str) ((fun a : List (List Nat) => D.lst (a.map D.str)) []) >>= _) st = _
    refine loop_then (fun a : List (List Nat) => D.lst (a.map D.str)) D.str (fun a t => a ++ (opts c).map fun b => t ++ [b]) (fun k b => b.length ≤ 3 * k ∧ k ≤ F.length) F [] ⟨by simp, by omega⟩ (fun j t b hj ⟨hb, hk⟩ => ⟨_, rfl, ?_, ?_, ?_⟩) fun ⟨_, _⟩ => ?_
    · have := h3 t (List.mem_of_getElem? hj)
      have ho : (opts c).length ≤ 3 := by
        unfold opts
        by_cases h : c = 63
        · rw [if_pos h]; decide
        · rw [if_neg h]; simp
      rw [comp_all (dec := dec1) (fun c => D.str [c]) (fun b => D.str (t ++ [b])) fun b _ => ⟨_, rfl, add_ss (by rw [List.length_singleton]; omega)⟩, M.pure_bind, f_lst (by rw [List.length_map]; omega), M.pure_bind, add_ll (by rw [List.length_map, List.length_map]; omega), M.pure_bind, List.map_append, List.map_map]
      rfl
    · have ho : (opts c).length ≤ 3 := by
        unfold opts
        by_cases h : c = 63
        · rw [if_pos h]; decide
        · rw [if_neg h]; simp
      rw [List.length_append, List.length_map]; omega
    · have := (List.getElem?_eq_some_iff.mp hj).1
      omega
    · rw [tl_next, fold_app, List.nil_append]
      rfl
  · rw [exStep_len, h1, cnt_take hj]
    by_cases h : c = 63
    · rw [if_pos h, if_pos h, Nat.pow_succ]; omega
    · rw [if_neg h, if_neg h]; simp
  · unfold exStep at ht
    obtain ⟨s, hs, ht⟩ := List.mem_flatMap.mp ht
    obtain ⟨b, _, rfl⟩ := List.mem_map.mp ht
    have := h3 s hs
    rw [List.length_append, List.length_singleton]
    omega
  · have e : (joinL [10] T).foldl exStep [[]] = (exT T).map (joinL [10]) := by
      rw [ex_fold]
      have : ([[]] : List (List Nat)).flatMap (fun t => (ex (joinL [10] T)).map (t ++ ·)) = ex (joinL [10] T) := by simp
      rw [this, ex_join T hT.ne]
    rw [tl_next, e, List.map_map]
    simp (config := {implicitDefEqProofs := false}) only [M.pure_bind, M.bind_assoc, w_lst, isS_s]
    rw [comp_all (dec := dec1) (D.str ∘ joinL [10]) mD fun T' h => ⟨_, rfl, ?_⟩, M.pure_bind, f_lst (by rw [List.length_map]; omega), M.pure_bind, sorted_lst fun T' h => shp_ne hT (a2 T' h), f_lst (by rw [srt_len, List.length_map]; omega)]
    · rfl
    · have hs := a2 T' h
      have := hs.len
      show (isS (D.str (joinL [10] T')) >>= fun _ => dSplit fLst (D.str (joinL [10] T')) (.str [10]) >>= dTuple) = _
      rw [isS_s, M.pure_bind, split_rows (shp_ne hT hs) (by omega) (hs.row hT) (exT_lf hn h), M.pure_bind]
      rfl
end My
/-! KP11: the words of errors, refusals. -/
namespace My
open PySem PySem.Spec PyProof.Rows L2 DL DH
open TL (joinL)

/-- grown: all as it was, cells added -/
structure Gr (st s : Store) : Prop where
  len : st.length ≤ s.length
  keep : ∀ j, j < st.length → s[j]? = st[j]?
theorem Gr.refl {st : Store} : Gr st st := ⟨Nat.le_refl _, fun _ _ => rfl⟩
theorem Gr.trans {a b c : Store} (h : Gr a b) (k : Gr b c) : Gr a c := ⟨Nat.le_trans h.len k.len, fun j hj => (k.keep j (Nat.lt_of_lt_of_le hj h.len)).trans (h.keep j hj)⟩
theorem Gr.push {st : Store} (c : Cell) : Gr st (st ++ [c]) := ⟨by rw [List.length_append]; omega, fun j hj => List.getElem?_append_left hj⟩
theorem Gr.set {st s : Store} {k : Nat} (h : Gr st s) (hk : st.length ≤ k) (c : Cell) : Gr st (s.set k c) := ⟨by rw [List.length_set]; exact h.len, fun j hj => by rw [List.getElem?_set_ne (by omega)]; exact h.keep j hj⟩
theorem Gr.fr {i : Nat} {st s : Store} (h : Gr st s) (g : Gs i st) : Fr i st s := ⟨h.len, fun j hj _ => h.keep j hj, let ⟨a, b, q⟩ := g; ⟨a, b, by rw [h.keep i g.lt]; exact q⟩⟩
theorem Gr.at {st s : Store} (h : Gr st s) {j : Nat} {c : Cell} (hj : st[j]? = some c) : s[j]? = some c := (h.keep j (List.getElem?_eq_some_iff.mp hj).1).trans hj
theorem f_l2 (a b : D) : fLst [a, b] = pure (.lst [a, b]) := if_pos (show (2 : Nat) ≤ 16777216 by decide)
theorem f_l1 (a : D) : fLst [a] = pure (.lst [a]) := if_pos (show (1 : Nat) ≤ 16777216 by decide)
theorem f_l3 (a b c : D) : fLst [a, b, c] = pure (.lst [a, b, c]) := if_pos (show (3 : Nat) ≤ 16777216 by decide)
theorem cat_ll {xs ys : List D} {st : Store} (h : (xs ++ ys).length ≤ 16777216) : dCat newC (.lst xs) (.lst ys) st = .ok (.ref st.length) (st ++ [.lst (xs ++ ys)]) := n_cel h
theorem cat_rl {k : Nat} {xs ys : List D} {st : Store} (hk : st[k]? = some (.lst xs)) (h : (xs ++ ys).length ≤ 16777216) : dCat newC (.ref k) (.lst ys) st = .ok (.ref st.length) (st ++ [.lst (xs ++ ys)]) := by
  show (rdC k >>= fun xs => asLL (.lst ys) >>= fun ys => newC (xs ++ ys)) st = _
  rw [bind_ok (rdC_ok hk)]
  exact n_cel h
def errTbl : List (PySem.Str × List Nat) := [("InvalidModel", [109, 111, 100, 101, 108]), ("InvalidSizes", [115, 105, 122, 101, 115]), ("InvalidQuantity", [113, 117, 97, 110, 116, 105, 116, 121]), ("InvalidLot", [108, 111, 116]), ("InvalidSign", [115, 105, 103, 110]), ("InvalidPlace", [112, 108, 97, 99, 101]), ("InvalidSeen", [115, 101, 101, 110]), ("Unlike", [117, 110, 108, 105, 107, 101]), ("NothingToUndo", [117, 110, 100, 111]), ("TooMany", [109, 97, 110, 121]), ("InvalidText", [116, 101, 120, 116])]
def errWord (isE : PySem.Str → Bool) : List Nat := joinL [32] ((errTbl.filter fun p => isE p.1).map (·.2))
theorem filt_sum (f : PySem.Str × List Nat → Bool) : ∀ l : List (PySem.Str × List Nat), (((l.filter f).map (·.2)).map List.length).sum ≤ ((l.map (·.2)).map List.length).sum
  | [] => Nat.le_refl _
  | p :: l => by
    have ih := filt_sum f l
    rw [List.filter_cons]
    cases f p with
    | true => simp only [if_true, List.map_cons, List.sum_cons]; omega
    | false => simp only [Bool.false_eq_true, if_false, List.map_cons, List.sum_cons]; omega
theorem error_tr (isE : PySem.Str → Bool) (st : Store) : Tr (m__law_error isE) st fun d s => d = .str (errWord isE) ∧ Gr st s := by
  unfold m__law_error mB__law_error
  simp (config := {implicitDefEqProofs := false}) only [M.pure_bind, M.bind_assoc, mk_t2, f_l2]
  have at_end : ∀ (s : Store) (c : Cell), (s ++ [c])[s.length]? = some c := fun s c => List.getElem?_concat_length
  refine tr_run (cat_ll (show (4 : Nat) ≤ 16777216 by decide)) ?_
  refine tr_run (cat_rl (at_end _ _) (show (6 : Nat) ≤ 16777216 by decide)) ?_
  refine tr_run (cat_rl (at_end _ _) (show (8 : Nat) ≤ 16777216 by decide)) ?_
  refine tr_run (cat_rl (at_end _ _) (show (10 : Nat) ≤ 16777216 by decide)) ?_
  refine tr_run (rd_isC (at_end _ _)) ?_
  refine tr_run (rd_app (at_end _ _) (show (10 : Nat) < 16777216 by decide)) ?_
  rw [isS_s, M.pure_bind]
  refine tr_run (rd_frz (List.getElem?_set_self (by simp))) ?_
  show Tr (compM dec2 (fun p => asB p.2) (fun p => pure p.1) (errTbl.map fun p => .tup [.str p.2, .bl (isE p.1)]) >>= fun x => fLst x >>= fun x => dJoin (.str [32]) x >>= fun d => retM (.ret d)) _ _
  rw [comp_map (dec := dec2) (fun p : PySem.Str × List Nat => D.tup [.str p.2, .bl (isE p.1)]) (fun p => isE p.1) (fun p => D.str p.2) fun p _ => ⟨_, dec2_tup _ _, rfl, fun _ => rfl⟩]
  have hl := List.length_filter_le (fun p : PySem.Str × List Nat => isE p.1) errTbl
  have h11 : errTbl.length = 11 := rfl
  have hs := filt_sum (fun p => isE p.1) errTbl
  have h61 : ((errTbl.map (·.2)).map List.length).sum = 52 := by decide
  rw [M.pure_bind, f_lst (by rw [List.length_map]; omega), M.pure_bind]
  have ej : dJoin (.str [32]) (.lst ((errTbl.filter fun p => isE p.1).map fun p => .str p.2)) = pure (.str (errWord isE)) := by
    rw [show ((errTbl.filter fun p => isE p.1).map fun p => D.str p.2) = ((errTbl.filter fun p => isE p.1).map (·.2)).map D.str by rw [List.map_map]; rfl]
    show (ofO (strsOf (((errTbl.filter fun p => isE p.1).map (·.2)).map D.str)) >>= fun ys => if joinOk [32] ys = true then pure (D.str (joinL [32] ys)) else M.stuck) = _
    rw [strsOf_map, ofO_some, M.pure_bind, if_pos]
    · rfl
    · unfold joinOk
      rw [decide_eq_true_eq, List.length_map, List.length_singleton]
      have : (((errTbl.filter fun p => isE p.1).map (·.2)).map (·.length)).sum ≤ 52 := by rw [← h61]; exact hs
      omega
  rw [ej, M.pure_bind, r_ret]
  refine tr_pure ⟨rfl, ?_⟩
  refine Gr.set (Gr.set ((((Gr.push _).trans (Gr.push _)).trans (Gr.push _)).trans (Gr.push _)) (by simp) _) (by simp) _
theorem catch_ok {cls : List PySem.Str} {mErr : PySem.Str → M D} {mb : M D} {st : Store} {P : D → Store → Prop} (h : Tr mb st P) : Tr (catchM cls mErr mb) st fun d s => d = .str [] ∧ ∃ x, P x s := by
  obtain ⟨a, s, e, p⟩ := h.ex
  exact tr_ok (by unfold catchM; rw [e]) ⟨rfl, a, p⟩
theorem catch_exc {cls : List PySem.Str} {mErr : PySem.Str → M D} {mb : M D} {st s : Store} {c : PySem.Str} {P : D → Store → Prop} (e : mb st = .exc ⟨c, []⟩ s) (hc : cls.contains c = true) (h : Tr (mErr c) s P) : Tr (catchM cls mErr mb) st P := by
  obtain ⟨a, s2, e2, p⟩ := h.ex
  refine tr_ok (a := a) (s := s2) ?_ p
  unfold catchM
  rw [e]
  show (if (cls.contains c && true) = true then nox (mErr c) s else .stuck) = _
  rw [hc]
  show nox (mErr c) s = _
  unfold nox
  rw [e2]
theorem tab_ok {j : Nat} {x q : PySem.Str} {st : Store} (h : st[j]? = some (.tab x q)) : tabC j x q st = .ok () st := by
  rcases tabC_cases j x q st with ⟨_, e⟩ | e
  · exact e
  · unfold tabC at e ⊢
    rw [h] at e ⊢
    show (if (x == x && q == q) = true then R.ok () st else .stuck) = _
    rw [beq_self_eq_true, beq_self_eq_true]
    rfl
end My
/-! KP12: sizes, refusals of the model. -/
namespace My
open PySem PySem.Spec PyProof.Rows L2 DL DH
open TL (joinL)

theorem sz_rows {B n : Nat} {d : D} (hB : B ≤ 16777216) (h : szD B n d = true) : ∀ xs, d = .tup xs → ∀ x ∈ xs, pl x = true ∧ ∀ cs, x = .str cs → cs.length ≤ 16777216 := fun xs e x hx => by
  subst e
  obtain ⟨_, k, hk⟩ := sz_items h
  refine ⟨sz_pl (hk x hx), fun cs e => ?_⟩
  subst e
  exact Nat.le_trans (sz_str (hk _ hx)) hB
theorem model_sz {B n : Nat} {d : D} (hB : B ≤ 16777216) (h : szD B n d = true) : m_is_right_model d = pure (.bl (modelOk d)) := model_eq (sz_pl h) (sz_rows hB h)
theorem good_sz {B n : Nat} {d : D} (hB : B ≤ 16777216) (h : szD B n d = true) : m__law_good_model d = pure (.bl (modelOk d)) := good_eq (sz_pl h) (sz_rows hB h)
theorem rows_of {m : Nat} : ∀ {xs : List D}, (∀ x ∈ xs, rowOk m x = true) → ∃ T : Mo, xs = T.map D.str ∧ (∀ r ∈ T, r.length = m) ∧ ∀ r ∈ T, ∀ c ∈ r, c = 43 ∨ c = 45 ∨ c = 48 ∨ c = 63
  | [], _ => ⟨[], rfl, (fun r h => absurd h List.not_mem_nil), (fun r h => absurd h List.not_mem_nil)⟩
  | x :: xs, h => by
    obtain ⟨cs, rfl, h1, h2⟩ := row_str (h x List.mem_cons_self)
    obtain ⟨T, rfl, h3, h4⟩ := rows_of fun y hy => h y (List.mem_cons_of_mem _ hy)
    refine ⟨cs :: T, rfl, fun r hr => ?_, fun r hr => ?_⟩
    · rcases List.mem_cons.mp hr with e | hr
      · rw [e]; exact h1
      · exact h3 r hr
    · rcases List.mem_cons.mp hr with e | hr
      · rw [e]
        intro c hc
        have := h2 c hc
        unfold sgnB at this
        simp only [Bool.or_eq_true, beq_iff_eq] at this
        omega
      · exact h4 r hr
theorem sum_cnt (T : Mo) : ((T.map D.str).map cntD).sum = (T.map (·.count 63)).sum := by
  rw [List.map_map]
  rfl
theorem model_of {d : D} (h : modelOk d = true) : ∃ (m : Nat) (T : Mo), d = mD T ∧ 1 ≤ m ∧ m ≤ 4 ∧ MOk 4 m T := by
  cases d with
  | tup xs =>
    unfold modelOk at h
    simp only [Bool.and_eq_true, decide_eq_true_eq, List.all_eq_true] at h
    obtain ⟨⟨h1, h2⟩, h3, h4⟩ := h
    obtain ⟨T, rfl, h5, h6⟩ := rows_of h3
    rw [List.length_map] at h1 h2 h5
    rw [sum_cnt] at h4
    exact ⟨T.length, T, rfl, h1, h2, rfl, h5, h6, h4⟩
  | _ => cases h
theorem ok_of {m : Nat} {T : Mo} (h1 : 1 ≤ m) (h2 : m ≤ 4) (h : MOk 4 m T) : modelOk (mD T) = true := by
  show ((decide (1 ≤ (T.map D.str).length) && decide ((T.map D.str).length ≤ 4)) && ((T.map D.str).all (rowOk (T.map D.str).length) && decide (((T.map D.str).map cntD).sum ≤ 4))) = true
  rw [List.length_map, sum_cnt, h.len]
  simp only [Bool.and_eq_true, decide_eq_true_eq, List.all_eq_true]
  refine ⟨⟨h1, h2⟩, fun x hx => ?_, h.few⟩
  obtain ⟨r, hr, rfl⟩ := List.mem_map.mp hx
  show (decide (r.length = m) && r.all sgnB) = true
  rw [Bool.and_eq_true, decide_eq_true_eq, List.all_eq_true]
  refine ⟨h.row r hr, fun c hc => ?_⟩
  have := h.sgn r hr c hc
  unfold sgnB
  simp only [Bool.or_eq_true, beq_iff_eq]
  omega
theorem sm_of {m : Nat} {T : Mo} (h1 : 1 ≤ m) (h2 : m ≤ 4) (h : MOk 4 m T) : Sm T ∧ NoLf T := by
  refine ⟨⟨by rw [h.len]; exact h2, fun r hr => by rw [h.row r hr]; exact h2, ?_, fun e => ?_⟩, fun r hr c hc e => ?_⟩
  · rw [hidT_len]
    exact h.few
  · rw [e] at h
    have := h.len
    rw [List.length_nil] at this
    omega
  · have := h.sgn r hr c hc
    omega
theorem mD_sz {m : Nat} {T : Mo} (h2 : m ≤ 4) (h : MOk 4 m T) : szD 4 1 (mD T) = true := by
  unfold mD
  rw [sz_tup, List.length_map, h.len]
  refine ⟨h2, fun d hd => ?_⟩
  obtain ⟨r, hr, rfl⟩ := List.mem_map.mp hd
  show szD 4 0 (.str r) = true
  unfold szD
  rw [decide_eq_true_eq, h.row r hr]
  exact h2
/-! ### need_model -/
theorem need_ok {d : D} (h : m_is_right_model d = pure (.bl true)) : m_need_model d = pure .non := by
  unfold m_need_model mB_need_model
  simp (config := {implicitDefEqProofs := false}) only [M.pure_bind, M.bind_assoc, m1, h, b_as, Bool.not_true, ifF]
  rfl
theorem need_bad {d : D} (h : m_is_right_model d = pure (.bl false)) : m_need_model d = M.throw ⟨"InvalidModel", []⟩ := by
  unfold m_need_model mB_need_model
  simp (config := {implicitDefEqProofs := false}) only [M.pure_bind, M.bind_assoc, m1, h, b_as, Bool.not_false, ↓reduceIte]
  rfl
theorem model_word : errWord (isEc "InvalidModel") = [109, 111, 100, 101, 108] := by decide
theorem err_in : errCls.contains "InvalidModel" = true := by decide
/-- the word that is due -/
def due (d : D) : D := .str (if modelOk d = true then [] else [109, 111, 100, 101, 108])
/-- the tables stand -/
structure Tabs (st : Store) : Prop where
  t0 : st[0]? = some (.tab "_law_by_one" (lamQ "_law_by_one"))
  t1 : st[1]? = some (.tab "_law_by_two" (lamQ "_law_by_two"))
theorem Tabs.fr {i : Nat} {st s : Store} (h : Tabs st) (f : Fr i st s) (hi : 2 ≤ i) : Tabs s := ⟨f.at h.t0 (by omega), f.at h.t1 (by omega)⟩
theorem Tabs.gr {st s : Store} (h : Tabs st) (f : Gr st s) : Tabs s := ⟨f.at h.t0, f.at h.t1⟩
section
variable {B n : Nat} {d : D} {st : Store}
theorem refused_tr {mf : M D} (hok : modelOk d = true → Tr mf st fun _ s => Gr st s) (hbad : modelOk d = false → mf st = .exc ⟨"InvalidModel", []⟩ st) : Tr (catchM errCls (fun c => m__law_error (isEc c)) mf) st fun x s => x = due d ∧ Gr st s := by
  unfold due
  cases h : modelOk d with
  | true =>
    refine tr_mono (catch_ok (hok h)) fun x s ⟨e, _, g⟩ => ⟨?_, g⟩
    rw [e]
    rfl
  | false =>
    refine catch_exc (hbad h) err_in (tr_mono (error_tr _ st) fun x s ⟨e, g⟩ => ⟨?_, g⟩)
    rw [e, model_word]
    rfl
theorem fillings_tr (hB : B ≤ 16777216) (hd : szD B n d = true) : (modelOk d = true → Tr (m_fillings d) st fun _ s => Gr st s) ∧ (modelOk d = false → m_fillings d st = .exc ⟨"InvalidModel", []⟩ st) := by
  have hm := model_sz hB hd
  constructor
  · intro h
    rw [h] at hm
    obtain ⟨m, T, rfl, h1, h2, hT⟩ := model_of h
    unfold m_fillings mB_fillings
    simp (config := {implicitDefEqProofs := false}) only [M.pure_bind, M.bind_assoc, m1, need_ok hm]
    exact tr_run (fillings_eq (sm_of h1 h2 hT).1 st) (tr_pure (Gr.push _))
  · intro h
    rw [h] at hm
    unfold m_fillings mB_fillings
    simp (config := {implicitDefEqProofs := false}) only [M.pure_bind, M.bind_assoc, m1, need_bad hm]
    rfl
theorem unknown_tr (hB : B ≤ 16777216) (hd : szD B n d = true) : (modelOk d = true → Tr (m_unknown d) st fun _ s => Gr st s) ∧ (modelOk d = false → m_unknown d st = .exc ⟨"InvalidModel", []⟩ st) := by
  have hm := model_sz hB hd
  constructor
  · intro h
    rw [h] at hm
    obtain ⟨m, T, rfl, h1, h2, hT⟩ := model_of h
    obtain ⟨s1, _⟩ := sm_of h1 h2 hT
    unfold m_unknown mB_unknown
    simp (config := {implicitDefEqProofs := false}) only [M.pure_bind, M.bind_assoc, m1, need_ok hm, unknown_eq s1.row s1.len]
    exact tr_pure Gr.refl
  · intro h
    rw [h] at hm
    unfold m_unknown mB_unknown
    simp (config := {implicitDefEqProofs := false}) only [M.pure_bind, M.bind_assoc, m1, need_bad hm]
    rfl
/-! ### sizes -/
def rowS (m : Nat) : D → Bool
  | .tup ys => decide (ys.length = m) && ys.all (wi 1 1000000000000000000000000000000)
  | _ => false
def sizesOk (m : Nat) : D → Bool
  | .tup xs => decide (xs.length = m) && xs.all (rowS m)
  | _ => false
theorem sizes_eq {T : Mo} (hB : B ≤ 16777216) (hd : szD B n d = true) : m_are_right_sizes (mD T) d = pure (.bl (sizesOk T.length d)) := by
  have hp := sz_pl hd
  cases d with
  | tup xs =>
    obtain ⟨hl, k, hk⟩ := sz_items hd
    unfold m_are_right_sizes mB_are_right_sizes mD
    simp (config := {implicitDefEqProofs := false}) only [M.pure_bind, M.bind_assoc, bOr, isi_t, b_as, Bool.not_true, ifF, t_len, ne_nn, w_tup]
    rw [List.length_map, show sizesOk T.length (.tup xs) = (decide (xs.length = T.length) && xs.all (rowS T.length)) from rfl]
    by_cases hm : xs.length = T.length
    · simp (config := {implicitDefEqProofs := false}) only [decide_eq_true hm, Bool.not_true, ifF, Bool.true_and]
      have lp := fun body hb => loop_find (S := Unit) (A := Unit) (dec := dec1) (body := body) id id (fun x => !rowS T.length x) (.bl false) (fun a _ => a) xs () hb
      rw [List.map_id] at lp
      rw [show ((() : Unit)) = id () from rfl, lp _ fun x hm a => ⟨x, rfl, ?_⟩]
      · rw [any_not]
        cases hr : xs.all (rowS T.length) with
        | false => rfl
        | true => rfl
      · have hx := hk x hm
        have hpx := sz_pl hx
        cases x with
        | tup ys =>
          obtain ⟨hl2, k2, hk2⟩ := sz_items hx
          simp (config := {implicitDefEqProofs := false}) only [M.pure_bind, M.bind_assoc, isi_t, b_as, Bool.not_true, ifF, t_len, ne_nn, w_tup]
          rw [show rowS T.length (.tup ys) = (decide (ys.length = T.length) && ys.all (wi 1 1000000000000000000000000000000)) from rfl]
          by_cases hy : ys.length = T.length
          · simp (config := {implicitDefEqProofs := false}) only [decide_eq_true hy, Bool.not_true, ifF, Bool.true_and]
            have c1 : compM dec1 (fun _ => pure true) (fun p50 => mk3 m_is_within [p50, D.int 1, D.int 1000000000000000000000000000000]) ys = pure (ys.map fun y => D.bl (wi 1 1000000000000000000000000000000 y)) := by
              have := comp_all (dec := dec1) (el := fun p50 => mk3 m_is_within [p50, D.int 1, D.int 1000000000000000000000000000000]) id (fun y => D.bl (wi 1 1000000000000000000000000000000 y)) (xs := ys) fun y hm => ⟨y, rfl, by rw [m3]; exact within_eq (sz_pl (hk2 y hm)) _ _⟩
              rw [List.map_id] at this
              exact this
            rw [c1, M.pure_bind, f_lst (by rw [List.length_map]; omega), M.pure_bind, all_map, M.pure_bind, b_as, M.pure_bind]
            cases ys.all (wi 1 1000000000000000000000000000000) <;> rfl
          · simp (config := {implicitDefEqProofs := false}) only [decide_eq_false hy, Bool.not_false, Bool.false_and]
            rfl
        | scr _ => cases hpx
        | fn _ => cases hpx
        | ref _ => cases hpx
        | adr _ => cases hpx
        | _ => rfl
    · simp (config := {implicitDefEqProofs := false}) only [decide_eq_false hm, Bool.not_false, Bool.false_and, ↓reduceIte, M.pure_bind, th_ret, r_ret]
  | scr _ => cases hp
  | fn _ => cases hp
  | ref _ => cases hp
  | adr _ => cases hp
  | _ => rfl
theorem whole_eq {d : D} (h : pl d = true) (lo hi : Int) : m__law_whole d (.int lo) (.int hi) = pure (.bl (wi lo hi d)) := by
  unfold m__law_whole mB__law_whole
  cases d with
  | int i =>
    rw [M.pure_bind, chain_le]
    rfl
  | scr _ => cases h
  | fn _ => cases h
  | ref _ => cases h
  | adr _ => cases h
  | _ => rfl
theorem filter_badD (p : D → Bool) : ∀ cs : List D, ((cs.filter fun c => !p c).map fun _ => D.int 1).isEmpty = cs.all p
  | [] => rfl
  | c :: cs => by
    cases h : p c with
    | true => rw [List.filter_cons_of_neg (by rw [h]; exact Bool.false_ne_true), filter_badD p cs, List.all_cons, h, Bool.true_and]
    | false => rw [List.filter_cons_of_pos (by rw [h]; rfl), List.all_cons, h]; rfl
theorem ones_okD (p : D → Bool) (cs : List D) : okDs 59 ((cs.filter p).map fun _ => D.int 1) = true := okDs_iff.mpr fun d hd => by
  obtain ⟨_, _, rfl⟩ := List.mem_map.mp hd
  exact ok_int _
theorem gsizes_eq {T : Mo} (hB : B ≤ 16777216) (hd : szD B n d = true) : m__law_good_sizes (mD T) d = pure (.bl (sizesOk T.length d)) := by
  have hp := sz_pl hd
  cases d with
  | tup xs =>
    obtain ⟨hl, k, hk⟩ := sz_items hd
    unfold m__law_good_sizes mB__law_good_sizes mD
    simp (config := {implicitDefEqProofs := false}) only [M.pure_bind, M.bind_assoc, bOr, isi_t, b_as, Bool.not_true, ifF, t_len, ne_nn, w_tup]
    rw [List.length_map, show sizesOk T.length (.tup xs) = (decide (xs.length = T.length) && xs.all (rowS T.length)) from rfl]
    by_cases hm : xs.length = T.length
    · simp (config := {implicitDefEqProofs := false}) only [decide_eq_true hm, Bool.not_true, ifF, Bool.true_and]
      have lp := fun body hb => loop_find (S := Unit) (A := Unit) (dec := dec1) (body := body) id id (fun x => !rowS T.length x) (.bl false) (fun a _ => a) xs () hb
      rw [List.map_id] at lp
      rw [show ((() : Unit)) = id () from rfl, lp _ fun x hm a => ⟨x, rfl, ?_⟩]
      · rw [any_not]
        cases hr : xs.all (rowS T.length) with
        | false => rfl
        | true => rfl
      · have hx := hk x hm
        have hpx := sz_pl hx
        cases x with
        | tup ys =>
          obtain ⟨hl2, k2, hk2⟩ := sz_items hx
          simp (config := {implicitDefEqProofs := false}) only [M.pure_bind, M.bind_assoc, isi_t, b_as, Bool.not_true, ifF, t_len, ne_nn, w_tup]
          rw [show rowS T.length (.tup ys) = (decide (ys.length = T.length) && ys.all (wi 1 1000000000000000000000000000000)) from rfl]
          by_cases hy : ys.length = T.length
          · simp (config := {implicitDefEqProofs := false}) only [decide_eq_true hy, Bool.not_true, ifF, Bool.true_and, pow30, M.pure_bind, m3]
            have c1 : compM dec1 (fun p885 => m__law_whole p885 (.int 1) (.int 1000000000000000000000000000000) >>= fun x => asB x >>= fun b => pure (!b)) (fun _ => pure (D.int 1)) ys = pure ((ys.filter fun y => !wi 1 1000000000000000000000000000000 y).map fun _ => D.int 1) := by
              have := comp_map (dec := dec1) (test := fun p885 => m__law_whole p885 (.int 1) (.int 1000000000000000000000000000000) >>= fun x => asB x >>= fun b => pure (!b)) (el := fun _ => pure (D.int 1)) id (fun y => !wi 1 1000000000000000000000000000000 y) (fun _ => D.int 1) (xs := ys) fun y hm => ⟨y, rfl, by rw [whole_eq (sz_pl (hk2 y hm)), M.pure_bind, b_as, M.pure_bind], fun _ => rfl⟩
              rw [List.map_id] at this
              exact this
            rw [c1, M.pure_bind, f_lst (by have := List.length_filter_le (fun y => !wi 1 1000000000000000000000000000000 y) ys; rw [List.length_map]; omega), M.pure_bind, f_l0, M.pure_bind, ne_nil (ones_okD _ _), M.pure_bind, b_as, M.pure_bind, filter_badD]
            cases ys.all (wi 1 1000000000000000000000000000000) <;> rfl
          · simp (config := {implicitDefEqProofs := false}) only [decide_eq_false hy, Bool.not_false, Bool.false_and]
            rfl
        | scr _ => cases hpx
        | fn _ => cases hpx
        | ref _ => cases hpx
        | adr _ => cases hpx
        | _ => rfl
    · simp (config := {implicitDefEqProofs := false}) only [decide_eq_false hm, Bool.not_false, Bool.false_and, ↓reduceIte, M.pure_bind, th_ret, r_ret]
  | scr _ => cases hp
  | fn _ => cases hp
  | ref _ => cases hp
  | adr _ => cases hp
  | _ => rfl
end
end My
/-! KP13: the law's turn. -/
namespace My
open PySem PySem.Spec PyProof.Rows L2 DL DH
open TL (joinL)

section
variable {B n : Nat} {d : D} {st : Store}
theorem by_f (hT : Tabs st) (hB : B ≤ 16777216) (hd : szD B n d = true) : Tr (m__law_by_one (.fn "fillings") d) st fun x s => x = due d ∧ Gr st s := by
  unfold m__law_by_one mB__law_by_one
  simp (config := {implicitDefEqProofs := false}) only [M.pure_bind, M.bind_assoc, r_ret]
  refine tr_run (tab_ok hT.t0) ?_
  rw [show lookD cands1 (.fn "fillings") = pure (mk1 m_fillings) from rfl, M.pure_bind, m1]
  exact tr_then (refused_tr (fillings_tr hB hd).1 (fillings_tr hB hd).2) fun x s h => tr_pure h
theorem by_u (hT : Tabs st) (hB : B ≤ 16777216) (hd : szD B n d = true) : Tr (m__law_by_one (.fn "unknown") d) st fun x s => x = due d ∧ Gr st s := by
  unfold m__law_by_one mB__law_by_one
  simp (config := {implicitDefEqProofs := false}) only [M.pure_bind, M.bind_assoc, r_ret]
  refine tr_run (tab_ok hT.t0) ?_
  rw [show lookD cands1 (.fn "unknown") = pure (mk1 m_unknown) from rfl, M.pure_bind, m1]
  exact tr_then (refused_tr (unknown_tr hB hd).1 (unknown_tr hB hd).2) fun x s h => tr_pure h
theorem are_eq {m : Nat} {T : Mo} (h1 : 1 ≤ m) (h2 : m ≤ 4) (h : MOk 4 m T) (hB : B ≤ 16777216) (hd : szD B n d = true) : m_are_sizes (mD T) d = pure (.bl (sizesOk m d)) := by
  have hm := model_sz (show 4 ≤ 16777216 by decide) (mD_sz h2 h)
  rw [ok_of h1 h2 h] at hm
  unfold m_are_sizes mB_are_sizes
  simp (config := {implicitDefEqProofs := false}) only [M.pure_bind, M.bind_assoc, m1, m2, need_ok hm, sizes_eq hB hd, h.len, r_ret]
theorem by_s (hT : Tabs st) (hB : B ≤ 16777216) (hd : szD B n d = true) : Tr (m__law_by_two (.fn "are_sizes") d .non) st fun x s => x = due d ∧ Gr st s := by
  unfold m__law_by_two mB__law_by_two
  simp (config := {implicitDefEqProofs := false}) only [M.pure_bind, M.bind_assoc, r_ret]
  refine tr_run (tab_ok hT.t1) ?_
  rw [show lookD cands2 (.fn "are_sizes") = pure (mk2 m_are_sizes) from rfl, M.pure_bind, m2]
  have hm := model_sz hB hd
  refine tr_then (refused_tr (fun h => ?_) fun h => ?_) fun x s h => tr_pure h
  · obtain ⟨m, T, rfl, h1, h2, hT⟩ := model_of h
    rw [are_eq (B := 4) (n := 0) h1 h2 hT (by decide) (by rfl)]
    exact tr_pure Gr.refl
  · rw [h] at hm
    unfold m_are_sizes mB_are_sizes
    simp (config := {implicitDefEqProofs := false}) only [M.pure_bind, M.bind_assoc, m1, need_bad hm]
    rfl
theorem is_eq (hB : B ≤ 16777216) (hd : szD B n d = true) : m_is_model d = pure (.bl (modelOk d)) := by
  unfold m_is_model mB_is_model
  simp (config := {implicitDefEqProofs := false}) only [M.pure_bind, M.bind_assoc, m1, model_sz hB hd, r_ret]
end
theorem eq_bb (a : Bool) : dEq (.bl a) (.bl a) = pure (.bl true) := eq_same (ok_bl _)
theorem bool_eq (a : Bool) : m__law_is_bool (.bl a) (.bl a) = pure (.bl true) := by
  unfold m__law_is_bool mB__law_is_bool vAnd
  have e : mIsi .bool (.bl a) = pure (.bl true) := rfl
  simp (config := {implicitDefEqProofs := false}) only [M.pure_bind, M.bind_assoc, e, b_as, ↓reduceIte, eq_bb, r_ret]
theorem mul_l3 (a : D) : dMul (.lst [a]) (.int 3) = pure (.lst [a, a, a]) := rfl
theorem max_min (k : Nat) : ∃ n : Nat, n ≤ 20 ∧ (dMin2 (.int 20) (.int (k : Nat)) >>= fun x => dMax2 (.int 6) x) = pure (.int (n : Nat)) := by
  have e1 : ∀ a b : Int, dMin2 (.int a) (.int b) = pure (.int (if b < a then b else a)) := fun _ _ => rfl
  have e2 : ∀ a b : Int, dMax2 (.int a) (.int b) = pure (.int (if b > a then b else a)) := fun _ _ => rfl
  rw [e1, M.pure_bind, e2]
  by_cases h : (k : Int) < 20
  · rw [if_pos h]
    by_cases h2 : (k : Int) > 6
    · rw [if_pos h2]; exact ⟨k, by omega, rfl⟩
    · rw [if_neg h2]; exact ⟨6, by omega, rfl⟩
  · rw [if_neg h]
    exact ⟨20, by omega, rfl⟩
def Vz (d : D) : Prop := ∃ n, n ≤ 20 ∧ szD 5000 n d = true
theorem vz_of {B n : Nat} {d : D} (hB : B ≤ 5000) (hn : n ≤ 20) (h : szD B n d = true) : Vz d := ⟨n, hn, sz_mono hB d (Nat.le_refl _) h⟩
theorem vz_tup {xs : List D} (hl : xs.length ≤ 5000) (h : ∀ x ∈ xs, szD 5000 3 x = true) : Vz (.tup xs) := ⟨4, by decide, sz_tup.mpr ⟨hl, h⟩⟩
theorem vz_lst {xs : List D} (hl : xs.length ≤ 5000) (h : ∀ x ∈ xs, szD 5000 3 x = true) : Vz (.lst xs) := ⟨4, by decide, sz_lst.mpr ⟨hl, h⟩⟩
theorem str_sz {B n : Nat} {cs : List Nat} (h : cs.length ≤ B) : szD B n (.str cs) = true := by
  unfold szD
  exact decide_eq_true h
theorem join0 {T : Mo} (h1 : T.length ≤ 4) (h2 : ∀ row ∈ T, row.length ≤ 4) : dJoin (.str []) (.tup (T.map D.str)) = pure (.str (joinL [] T)) ∧ (joinL [] T).length ≤ 16 := by
  have hs : (T.map (·.length)).sum ≤ 4 * T.length := rows_sum T h2
  constructor
  · show (ofO (strsOf (T.map D.str)) >>= fun ys => if joinOk [] ys = true then pure (D.str (joinL [] ys)) else M.stuck) = _
    rw [strsOf_map, ofO_some, M.pure_bind, if_pos]
    unfold joinOk
    rw [decide_eq_true_eq, List.length_nil]
    omega
  · have := joinL_len [] T
    rw [List.length_nil] at this
    omega
theorem mul_t4 (a : D) : dMul (.tup [a]) (.int 4) = pure (.tup [a, a, a, a]) := by
  unfold dMul
  dsimp only
  rw [if_pos ⟨List.cons_ne_nil _ _, by decide, by decide, by simp⟩]
  rfl
theorem mk_t0 : mkTup [] = pure (.tup []) := rfl
theorem f_l6 (a b c d e f : D) : fLst [a, b, c, d, e, f] = pure (.lst [a, b, c, d, e, f]) := if_pos (show (6 : Nat) ≤ 16777216 by decide)
theorem isi_any {d : D} (h : Vz d) : (∃ ys, d = .tup ys) ∨ mIsi .tuple d = pure (.bl false) := let ⟨_, _, h⟩ := h; isi_no h
theorem turn1 {i m : Nat} {T : Mo} {st : Store} (hT0 : Tabs st) (hi : 2 ≤ i) (g : Gs i st) (h1 : 1 ≤ m) (h2 : m ≤ 4) (hT : MOk 4 m T) {f : D → M (Fl Unit Unit)} {P : Fl Unit Unit → Store → Prop} (k : ∀ vs s, Fr i st s → (∀ v ∈ vs, Vz v) → vs.length ≤ 60 → Tr (f (.lst vs)) s P) :
    Tr (dList fLst (mD T) >>= fun x => dNeg (.int 1) >>= fun x_1 => asI x_1 >>= fun x_2 => dSlice (mD T) none x_2 >>= fun x_3 => mkTup [.str [48]] >>= fun x_4 => dAdd (mD T) x_4 >>= fun x_5 => isS (.str []) >>= fun _ => dJoin (.str []) (mD T) >>= fun x_7 => mkTup [] >>= fun x_8 => fLst [mD T, x, x_3, x_5, x_7, x_8] >>= fun v_values_973 => mkTup [.str []] >>= fun x => mkTup [.str [63, 63, 63, 63]] >>= fun x_9 => dMul x_9 (.int 4) >>= fun x_10 => fLst [x, x_10] >>= fun x => dAdd v_values_973 x >>= fun v_values_995 => rng1 (.int 20) >>= fun ds1172 =>
      loopM dec1 (fun s1008 p1009 => m__law_variant 6 (.ref i) (mD T) (.int 3) >>= fun v_odd_1011 => mIsi .tuple v_odd_1011 >>= fun x => asB x >>= fun x => (if x = true then m__law_variant 6 (.ref i) v_odd_1011 (.int 3) else pure v_odd_1011) >>= fun x => fLst [v_odd_1011, x] >>= fun x => dAdd s1008 x >>= fun v_values_1018 => (pure (.next v_values_1018) : M (Fl D D))) ds1172 v_values_995 >>= fun f1010 => thenL f1010 fun s1008 => m__law_any_value 6 (.ref i) (.int 3) >>= fun x => fLst [x] >>= fun x => dAdd s1008 x >>= f) st P := by
  obtain ⟨j1, j2⟩ := join0 (T := T) (by rw [hT.len]; exact h2) fun r hr => by rw [hT.row r hr]; exact h2
  have hs := mD_sz h2 hT
  have hit : ∀ x ∈ T.map D.str, szD 5000 3 x = true := fun x hx => by
    obtain ⟨r, hr, rfl⟩ := List.mem_map.mp hx
    exact str_sz (by rw [hT.row r hr]; omega)
  have hlen : (T.map D.str).length = m := by rw [List.length_map, hT.len]
  unfold mD at hs ⊢
  rw [l_list, f_lst (by omega), M.pure_bind, neg_i, M.pure_bind, as_i, M.pure_bind, sl_tup, M.pure_bind, mk_t1, M.pure_bind, add_tt (by rw [List.length_singleton]; omega), M.pure_bind, isS_s, M.pure_bind, j1, M.pure_bind, mk_t0, M.pure_bind, f_l6, M.pure_bind, mk_t1, M.pure_bind, mk_t1, M.pure_bind, mul_t4, M.pure_bind, f_l2, M.pure_bind, add_ll (xs := [D.tup (List.map D.str T), D.lst (List.map D.str T), D.tup (cutL (List.map D.str T) none (some (-1))), D.tup (List.map D.str T ++ [D.str [48]]), D.str (joinL [] T), D.tup []]) (by simp), M.pure_bind, rng_1 ⟨by decide, by decide⟩, M.pure_bind]
  refine tr_then (loop_ix (k := 0) (I := fun k s st' => Fr i st st' ∧ ∃ vs, s = .lst vs ∧ (∀ v ∈ vs, Vz v) ∧ vs.length ≤ 8 + 2 * k) (fun j d hj => ⟨d, rfl, fun s1 s ⟨f1, vs, e, hv, hl⟩ => ?_⟩) ⟨Fr.refl g, _, rfl, ?_, Nat.le_refl _⟩) fun fl s ⟨_, e, f1, vs, e2, hv, hl⟩ => ?_
  · subst e
    have hj' := (List.getElem?_eq_some_iff.mp hj).1
    rw [upFrom_len] at hj'
    have hj2 : j < 20 := hj'
    refine tr_then (var_tr (B := 4) (by decide) 5 0 3 (T.map D.str) s f1.src (by decide) (by decide) hs) fun o s2 ⟨f2, ho⟩ => ?_
    have last : ∀ {p : D} {s3 : Store}, Fr i st s3 → Vz p → Tr (fLst [o, p] >>= fun x => dAdd (.lst vs) x >>= fun v => (pure (.next v) : M (Fl D D))) s3 fun fl st' => ∃ s', fl = .next s' ∧ Fr i st st' ∧ ∃ vs, s' = .lst vs ∧ (∀ v ∈ vs, Vz v) ∧ vs.length ≤ 8 + 2 * (0 + j + 1) := fun {p s3} f3 hp => by
      rw [f_l2, M.pure_bind, add_ll (by simp only [List.length_cons, List.length_nil]; omega), M.pure_bind]
      refine tr_pure ⟨_, rfl, f3, _, rfl, fun v hv' => ?_, by rw [List.length_append]; simp only [List.length_cons, List.length_nil]; omega⟩
      rcases List.mem_append.mp hv' with q | q
      · exact hv v q
      · simp only [List.mem_cons, List.not_mem_nil, or_false] at q
        rcases q with q | q
        · rw [q]; exact vz_of (by decide) (by decide) ho
        · rw [q]; exact hp
    rcases isi_no ho with ⟨ys, rfl⟩ | e
    · rw [isi_t, M.pure_bind, b_as, M.pure_bind, if_pos rfl]
      refine tr_then (var_tr (B := 1012) (by decide) 5 8 3 ys s2 f2.src (by decide) (by decide) ho) fun o2 s3 ⟨f3, ho2⟩ => ?_
      exact last ((f1.trans f2).trans f3) (vz_of (by decide) (by decide) ho2)
    · rw [e, M.pure_bind, b_as, M.pure_bind, if_neg Bool.false_ne_true, M.pure_bind]
      exact last (f1.trans f2) (vz_of (by decide) (by decide) ho)
  · intro v hv
    simp only [List.cons_append, List.nil_append, List.mem_cons, List.not_mem_nil, or_false] at hv
    rcases hv with rfl | rfl | rfl | rfl | rfl | rfl | rfl | rfl
    · exact vz_tup (by omega) hit
    · exact vz_lst (by omega) hit
    · exact vz_tup (by have := cutL_len (T.map D.str) none (some (-1)); omega) fun x hx => hit x (cutL_mem hx)
    · refine vz_tup (by rw [List.length_append, List.length_singleton]; omega) fun x hx => ?_
      rcases List.mem_append.mp hx with q | q
      · exact hit x q
      · rw [List.mem_singleton.mp q]; exact str_sz (by simp)
    · exact ⟨0, by decide, str_sz (by omega)⟩
    · exact vz_tup (by simp) fun x hx => absurd hx List.not_mem_nil
    · exact vz_tup (by simp) fun x hx => by rw [List.mem_singleton.mp hx]; exact str_sz (by simp)
    · refine vz_tup (by simp) fun x hx => ?_
      simp only [List.mem_cons, List.not_mem_nil, or_false, or_self] at hx
      rw [hx]; exact str_sz (by simp)
  · subst e e2
    rw [upFrom_len] at hl
    have hl2 : vs.length ≤ 48 := hl
    rw [tl_next]
    refine tr_then (any6 f1.src (by decide)) fun d s2 ⟨f2, hd⟩ => ?_
    rw [f_l1, M.pure_bind, add_ll (by rw [List.length_singleton]; omega), M.pure_bind]
    refine k _ s2 (f1.trans f2) (fun v hv' => ?_) (by rw [List.length_append, List.length_singleton]; omega)
    rcases List.mem_append.mp hv' with q | q
    · exact hv v q
    · rw [List.mem_singleton.mp q]; exact vz_of (by decide) (by decide) hd
theorem rd_neC {st : Store} {k : Nat} {xs : List D} (h : st[k]? = some (.lst xs)) (ho : okD 60 (.lst xs) = true) : dNeC (.ref k) (.lst xs) st = .ok (.bl false) st := by
  show ((rdC k >>= fun xs => pure (D.lst xs)) >>= fun x => pk (.lst xs) >>= fun y => dNe x y) st = _
  rw [M.bind_assoc, bind_ok (rdC_ok h), M.pure_bind]
  show (dNe (.lst xs) (.lst xs)) st = _
  rw [ne_same ho]
  rfl
theorem rd_eqC {st : Store} {k : Nat} {xs : List D} (h : st[k]? = some (.lst xs)) (ho : okD 60 (.lst xs) = true) : dEqC (.ref k) (.lst xs) st = .ok (.bl true) st := by
  show ((rdC k >>= fun xs => pure (D.lst xs)) >>= fun x => pk (.lst xs) >>= fun y => dEq x y) st = _
  rw [M.bind_assoc, bind_ok (rdC_ok h), M.pure_bind]
  show (dEq (.lst xs) (.lst xs)) st = _
  rw [eq_same ho]
  rfl
theorem cut_last {α : Type} (xs : List α) (a : α) : cutL (xs ++ [a]) none (some (-1)) = xs := by
  unfold cutL
  rw [HT.sIx_none, List.drop_zero, Nat.sub_zero]
  have : HT.sIx (xs ++ [a]).length (xs ++ [a]).length (some (-1)) = xs.length := by
    show (if (-1 : Int) < 0 then ((-1 : Int) + ((xs ++ [a]).length : Int)).toNat else min (-1 : Int).toNat (xs ++ [a]).length) = xs.length
    rw [if_pos (by decide), List.length_append, List.length_singleton]
    omega
  rw [this, List.take_left']
  rfl
section
variable {m : Nat} {T : Mo}
theorem fil_eq (h1 : 1 ≤ m) (h2 : m ≤ 4) (hM : MOk 4 m T) (s : Store) : m_fillings (mD T) s = .ok (.ref s.length) (s ++ [.lst (srt ((exT T).map mD))]) := by
  have hm := model_sz (show 4 ≤ 16777216 by decide) (mD_sz h2 hM)
  rw [ok_of h1 h2 hM] at hm
  unfold m_fillings mB_fillings
  simp (config := {implicitDefEqProofs := false}) only [M.pure_bind, M.bind_assoc, m1, need_ok hm]
  rw [bind_ok (fillings_eq (sm_of h1 h2 hM).1 s)]
  rfl
theorem unk_eq (h1 : 1 ≤ m) (h2 : m ≤ 4) (hM : MOk 4 m T) : m_unknown (mD T) = pure (.lst ((hidT 0 T).map plD)) := by
  have hm := model_sz (show 4 ≤ 16777216 by decide) (mD_sz h2 hM)
  rw [ok_of h1 h2 hM] at hm
  obtain ⟨sm1, sm2⟩ := sm_of h1 h2 hM
  unfold m_unknown mB_unknown
  simp (config := {implicitDefEqProofs := false}) only [M.pure_bind, M.bind_assoc, m1, need_ok hm, unknown_eq sm1.row sm1.len, r_ret]
end
theorem srt_sorted {xs : List D} (h : xs.Pairwise fun a b => PySem.W.dataLe false toPy a b = true) : srt xs = xs := List.mergeSort_of_pairwise h
theorem end1 : srt ((exT [[45, 48], [63, 45]]).map mD) = [mD [[45, 48], [43, 45]], mD [[45, 48], [45, 45]], mD [[45, 48], [48, 45]]] := by
  have e : (exT [[45, 48], [63, 45]]).map mD = [mD [[45, 48], [43, 45]], mD [[45, 48], [45, 45]], mD [[45, 48], [48, 45]]] := rfl
  rw [e]
  refine srt_sorted ?_
  simp only [List.pairwise_cons, List.mem_cons, List.not_mem_nil, or_false, forall_eq_or_imp, forall_eq, false_implies, implies_true, List.Pairwise.nil, and_true]
  exact ⟨⟨rfl, rfl⟩, rfl⟩
theorem end2 : (exT [[63, 63], [63, 63]]).length = 81 := by decide
theorem end3 : srt ((exT [[45]]).map mD) = [mD [[45]]] := List.mergeSort_singleton _
theorem mk_t4 (a b c d : D) : mkTup [a, b, c, d] = pure (.tup [a, b, c, d]) := if_pos (show (4 : Nat) ≤ 16777216 by decide)
theorem mul_t3 (a : D) : dMul (.tup [a]) (.int 3) = pure (.tup [a, a, a]) := by
  unfold dMul
  dsimp only
  rw [if_pos ⟨List.cons_ne_nil _ _, by decide, by decide, by simp⟩]
  rfl
theorem no_model : m_is_model (.tup [.str [63, 63, 63, 48], .str [63, 63, 48, 48], .str [48, 48, 48, 48], .str [48, 48, 48, 48]]) = pure (.bl false) := is_eq (B := 4) (n := 1) (by decide) (by rfl)
theorem yes_model : m_is_model (.tup [.str [63, 63, 63, 63], .str [48, 48, 48, 48], .str [48, 48, 48, 48], .str [48, 48, 48, 48]]) = pure (.bl true) := is_eq (B := 4) (n := 1) (by decide) (by rfl)
theorem ok1 : MOk 4 1 [[45]] := ⟨rfl, by decide, by decide, by decide⟩
theorem no_sizes : m_are_sizes (.tup [.str [45]]) (.tup [.tup [.int 0]]) = pure (.bl false) := are_eq (T := [[45]]) (B := 4) (n := 2) (by decide) (by decide) ok1 (by decide) (by rfl)
theorem yes_sizes : m_are_sizes (.tup [.str [45]]) (.tup [.tup [.int 1000000000000000000000000000000]]) = pure (.bl true) := are_eq (T := [[45]]) (B := 4) (n := 2) (by decide) (by decide) ok1 (by decide) (by rfl)
theorem fin1 (s : Store) : m_fillings (.tup [.str [45, 48], .str [63, 45]]) s = .ok (.ref s.length) (s ++ [.lst [mD [[45, 48], [43, 45]], mD [[45, 48], [45, 45]], mD [[45, 48], [48, 45]]]]) := by
  have := fil_eq (m := 2) (T := [[45, 48], [63, 45]]) (by decide) (by decide) ⟨rfl, by decide, by decide, by decide⟩ s
  rw [end1] at this
  exact this
theorem fin2 (s : Store) : ∃ xs, xs.length = 81 ∧ m_fillings (.tup [.str [63, 63], .str [63, 63]]) s = .ok (.ref s.length) (s ++ [.lst xs]) :=
  ⟨_, by rw [srt_len, List.length_map]; exact end2, fil_eq (m := 2) (T := [[63, 63], [63, 63]]) (by decide) (by decide) ⟨rfl, by decide, by decide, by decide⟩ s⟩
theorem fin3 (s : Store) : m_fillings (.tup [.str [45]]) s = .ok (.ref s.length) (s ++ [.lst [mD [[45]]]]) := by
  have := fil_eq (m := 1) (T := [[45]]) (by decide) (by decide) ok1 s
  rw [end3] at this
  exact this
theorem fin4 : m_unknown (.tup [.str [45, 63], .str [43, 45]]) = pure (.lst [.tup [.int 0, .int 1]]) := unk_eq (m := 2) (T := [[45, 63], [43, 45]]) (by decide) (by decide) ⟨rfl, by decide, by decide, by decide⟩
theorem law_run (ns : List Int) (st : Store) (hT : Tabs st) (h2 : 2 ≤ st.length) : Tr (m_law (.scr ns)) st fun d _ => d = .bl true := by
  unfold m_law mB_law
  simp (config := {implicitDefEqProofs := false}) only [M.pure_bind, M.bind_assoc, m1, m2, m3, c_len]
  obtain ⟨K, hK, e⟩ := max_min ns.length
  have e' : ∀ {β : Type} (f : D → M β), (dMin2 (.int 20) (.int (ns.length : Nat)) >>= fun x => dMax2 (.int 6) x >>= f) = f (.int (K : Nat)) := fun f => by
    rw [← M.bind_assoc, e, M.pure_bind]
  rw [e', rng_1 ⟨by omega, by omega⟩, M.pure_bind]
  refine tr_then (loop_tr (I := fun _ s => Tabs s ∧ 2 ≤ s.length) (fun d hd => ⟨d, rfl, fun u s0 ⟨hT0, hl0⟩ => ?_⟩) ⟨hT, h2⟩) fun fl s1 ⟨_, e, hT1, hl1⟩ => ?_
  · obtain ⟨k, hk, rfl⟩ := up_mem hd
    rw [Int.zero_add]
    refine tr_then (source_tr (by omega)) fun d s ⟨a, b, e, e2⟩ => ?_
    subst e e2
    have g : Gs s0.length (s0 ++ [.lst [.int a, .int b]]) := ⟨a, b, List.getElem?_concat_length⟩
    have hT' : Tabs (s0 ++ [.lst [.int a, .int b]]) := hT0.gr (Gr.push _)
    refine tr_then (drawn_tr g) fun d s ⟨f, m, T, e, h1, h2, hM⟩ => ?_
    subst e
    refine turn1 (hT'.fr f hl0) hl0 f.src h1 h2 hM fun vs s2 f2 hv hl => ?_
    have f12 := f.trans f2
    rw [w_lst, M.pure_bind]
    refine tr_then (loop_tr (I := fun _ s => Fr s0.length (s0 ++ [.lst [.int a, .int b]]) s) (fun d hd => ⟨d, rfl, fun u s3 f3 => ?_⟩) f12) fun fl s3 ⟨_, e, f3⟩ => ?_
    · obtain ⟨n, hn, hz⟩ := hv d hd
      have hB : 5000 ≤ 16777216 := by decide
      have hT3 := hT'.fr f3 hl0
      rw [is_eq hB hz, M.pure_bind, good_sz hB hz, M.pure_bind, bool_eq, M.pure_bind, b_as, M.pure_bind, Bool.not_true, if_neg Bool.false_ne_true]
      refine tr_then (by_f hT3 hB hz) fun x s4 ⟨e, g4⟩ => ?_
      subst e
      refine tr_then (by_u (hT3.gr g4) hB hz) fun x s5 ⟨e, g5⟩ => ?_
      subst e
      refine tr_then (by_s ((hT3.gr g4).gr g5) hB hz) fun x s6 ⟨e, g6⟩ => ?_
      subst e
      have ed : (if modelOk d = true then pure (.str []) else pure (.str [109, 111, 100, 101, 108]) : M D) = pure (due d) := by
        unfold due
        cases modelOk d <;> rfl
      rw [f_l3, M.pure_bind, M.pure_bind, b_as, M.pure_bind, ed, M.pure_bind, f_l1, M.pure_bind, mul_l3, M.pure_bind, ne_same (ok_lst.mpr fun x hx => by
        simp only [List.mem_cons, List.not_mem_nil, or_false, or_self] at hx
        rw [hx]
        exact ok_str _), M.pure_bind, b_as, M.pure_bind, if_neg Bool.false_ne_true]
      exact tr_pure ⟨_, rfl, f3.trans (((g4.trans g5).trans g6).fr f3.src)⟩
    · subst e
      rw [tl_next]
      rw [t_len, M.pure_bind, List.length_map, hM.len]
      refine tr_then (sizes_tr f3.src h2) fun d s4 ⟨f4, xs, e, hl4, hx⟩ => ?_
      subst e
      have f14 := f3.trans f4
      have hz4 : ∀ x ∈ xs, szD 5000 3 x = true := fun x hxx => by
        obtain ⟨ys, rfl, h3, h4⟩ := hx x hxx
        refine sz_mono (n := 1) (Nat.le_refl _) _ (by decide) (sz_tup.mpr ⟨by omega, fun y hy => ?_⟩)
        obtain ⟨z, rfl⟩ := h4 y hy
        unfold szD
        rfl
      have hsz : szD 4 2 (.tup xs) = true := sz_tup.mpr ⟨by omega, fun x hxx => by
        obtain ⟨ys, rfl, h3, h4⟩ := hx x hxx
        refine sz_tup.mpr ⟨by omega, fun y hy => ?_⟩
        obtain ⟨z, rfl⟩ := h4 y hy
        unfold szD
        rfl⟩
      have lc := cutL_len xs none (some 1)
      rw [l_list, f_lst (by omega), M.pure_bind, as_i, M.pure_bind, sl_tup, M.pure_bind, add_tt (by omega), M.pure_bind, mk_t0, M.pure_bind, show dRevT (.tup xs) = pure (.tup xs.reverse) from rfl, M.pure_bind]
      refine tr_run (n_cel (show (5 : Nat) ≤ 16777216 by decide)) ?_
      rw [rng_1 ⟨by decide, by decide⟩, M.pure_bind]
      have hq : s0.length < s4.length := f4.src.lt
      refine tr_then (loop_ix (k := 0) (I := fun k _ s => Fr s0.length (s0 ++ [.lst [.int a, .int b]]) s ∧ ∃ vs, s[s4.length]? = some (.lst vs) ∧ (∀ v ∈ vs, Vz v) ∧ vs.length ≤ 5 + k) (fun j d hj => ⟨d, rfl, fun u s5 ⟨f5, vs, hc, hv, hl⟩ => ?_⟩) ⟨f14.trans (Fr.push f4.src _), _, List.getElem?_concat_length, fun v hv => ?_, Nat.le_refl _⟩) fun fl s5 ⟨_, e, f5, vs, hc, hv, hl⟩ => ?_
      · have hj' := (List.getElem?_eq_some_iff.mp hj).1
        rw [upFrom_len] at hj'
        have hj2 : j < 12 := hj'
        refine tr_run (rd_isC hc) ?_
        refine tr_then (var_tr (B := 4) (by decide) 5 1 3 xs s5 f5.src (by decide) (by decide) hsz) fun o s6 ⟨f6, ho⟩ => ?_
        have hc6 := f6.at hc (by omega)
        refine tr_run (rd_app hc6 (by omega)) ?_
        refine tr_pure ⟨(), rfl, Fr.wr (f5.trans f6) (by have := f14.len; omega) (by rw [List.length_append]; simp) _, _, List.getElem?_set_self (List.getElem?_eq_some_iff.mp hc6).1, fun v hv' => ?_, by rw [List.length_append, List.length_singleton]; omega⟩
        rcases List.mem_append.mp hv' with q | q
        · exact hv v q
        · rw [List.mem_singleton.mp q]; exact vz_of (by decide) (by decide) ho
      · simp only [List.mem_cons, List.not_mem_nil, or_false] at hv
        rcases hv with rfl | rfl | rfl | rfl | rfl
        · exact vz_tup (by omega) hz4
        · exact vz_lst (by omega) hz4
        · refine vz_tup (by rw [List.length_append]; omega) fun x hx => ?_
          rcases List.mem_append.mp hx with q | q
          · exact hz4 x q
          · exact hz4 x (cutL_mem q)
        · exact vz_tup (by simp) fun x hx => absurd hx List.not_mem_nil
        · exact vz_tup (by rw [List.length_reverse]; omega) fun x hx => hz4 x (List.mem_reverse.mp hx)
      · subst e
        rw [tl_next]
        refine tr_run (rd_frz hc) ?_
        have f6 : Fr s0.length (s0 ++ [.lst [.int a, .int b]]) (s5.set s4.length .dead) := Fr.wr f5 (by have := f14.len; omega) (by rw [List.length_append]; simp) _
        rw [w_lst, M.pure_bind]
        refine tr_then (loop_tr (I := fun _ s => Fr s0.length (s0 ++ [.lst [.int a, .int b]]) s) (fun d hd => ⟨d, rfl, fun u s7 f7 => ?_⟩) f6) fun fl s7 ⟨_, e, f7⟩ => ?_
        · obtain ⟨n, hn, hz⟩ := hv d hd
          have hB : 5000 ≤ 16777216 := by decide
          have ea := are_eq h1 h2 hM hB hz
          have eg := gsizes_eq (T := T) hB hz
          unfold mD at ea eg
          rw [ea, M.pure_bind, eg, M.pure_bind, hM.len, bool_eq, M.pure_bind, b_as, M.pure_bind, Bool.not_true, if_neg Bool.false_ne_true]
          exact tr_pure ⟨_, rfl, f7⟩
        · subst e
          rw [tl_next]
          have hm := model_sz (show 4 ≤ 16777216 by decide) (mD_sz h2 hM)
          rw [ok_of h1 h2 hM] at hm
          obtain ⟨sm1, sm2⟩ := sm_of h1 h2 hM
          have ef : ∀ s, m_fillings (mD T) s = .ok (.ref s.length) (s ++ [.lst (srt ((exT T).map mD))]) := fun s => by
            unfold m_fillings mB_fillings
            simp (config := {implicitDefEqProofs := false}) only [M.pure_bind, M.bind_assoc, m1, need_ok hm]
            rw [bind_ok (fillings_eq sm1 s)]
            rfl
          have el := filled_eq sm1 sm2
          have eu : m_unknown (mD T) = pure (.lst ((hidT 0 T).map plD)) := by
            unfold m_unknown mB_unknown
            simp (config := {implicitDefEqProofs := false}) only [M.pure_bind, M.bind_assoc, m1, need_ok hm, unknown_eq sm1.row sm1.len, r_ret]
          have eh := hidden_eq sm1.row sm1.len
          have okF : okD 60 (.lst (srt ((exT T).map mD))) = true := ok_lst.mpr fun d hd => by
            rw [srt_mem] at hd
            obtain ⟨T', _, rfl⟩ := List.mem_map.mp hd
            exact mD_ok T'
          have lenF : (srt ((exT T).map mD)).length ≤ 81 := by
            rw [srt_len, List.length_map]
            exact (fold_all sm1).1
          have okH : okD 60 (.lst ((hidT 0 T).map plD)) = true := ok_lst.mpr fun d hd => by
            obtain ⟨p, _, rfl⟩ := List.mem_map.mp hd
            refine ok_tup.mpr fun d hd => ?_
            simp only [List.mem_cons, List.not_mem_nil, or_false] at hd
            rcases hd with rfl | rfl <;> exact ok_int _
          unfold mD at ef el eu eh
          refine tr_run (ef _) ?_
          refine tr_run (rd_isC List.getElem?_concat_length) ?_
          refine tr_run (rd_app List.getElem?_concat_length (by unfold mD at lenF; omega)) ?_
          unfold bOr
          simp (config := {implicitDefEqProofs := false}) only [M.bind_assoc]
          refine tr_run (ef _) ?_
          rw [el, M.pure_bind]
          refine tr_run (rd_neC List.getElem?_concat_length okF) ?_
          rw [b_as, M.pure_bind, if_neg Bool.false_ne_true, neg_i, M.pure_bind, as_i, M.pure_bind]
          simp (config := {implicitDefEqProofs := false}) only [M.bind_assoc]
          refine tr_run (rd_sl (xs := srt ((exT T).map mD) ++ [.str [111, 100, 100]]) (by
            rw [List.getElem?_append_left (by rw [List.length_set, List.length_append, List.length_singleton]; omega), List.getElem?_set_self (by rw [List.length_append, List.length_singleton]; omega)]
            rfl)) ?_
          rw [cut_last, M.pure_bind]
          have ns : dNe (.lst (srt ((exT T).map mD))) (.lst (srt ((exT T).map mD))) = pure (.bl false) := ne_same okF
          unfold mD at ns
          unfold mD
          rw [ns, M.pure_bind, b_as, M.pure_bind, if_neg Bool.false_ne_true, eu, M.pure_bind, eh, M.pure_bind, ne_same okH, M.pure_bind, b_as, M.pure_bind, if_neg Bool.false_ne_true]
          refine tr_pure ⟨_, rfl, ?_⟩
          have f8 := ((Gr.push (st := s7) (.lst (srt ((exT T).map fun T => D.tup (T.map D.str))))).set (Nat.le_refl _) (.lst (srt ((exT T).map fun T => D.tup (T.map D.str)) ++ [.str [111, 100, 100]]))).trans (Gr.push (.lst (srt ((exT T).map fun T => D.tup (T.map D.str)))))
          have f9 := f7.trans (f8.fr f7.src)
          refine ⟨(hT'.fr f9 hl0), ?_⟩
          have := f9.len
          rw [List.length_append] at this
          omega
  · subst e
    rw [tl_next]
    unfold bOr vAnd
    simp (config := {implicitDefEqProofs := false}) only [M.bind_assoc, M.pure_bind, mk_t1, mk_t2, mk_t4, no_model, no_sizes, b_as, mul_t3]
    rw [if_neg Bool.false_ne_true]
    simp (config := {implicitDefEqProofs := false}) only [M.bind_assoc, M.pure_bind, b_as]
    rw [if_neg Bool.false_ne_true, add_tt (by simp), M.pure_bind]
    simp (config := {implicitDefEqProofs := false}) only [List.cons_append, List.nil_append, yes_model, M.pure_bind, b_as, Bool.not_true]
    rw [if_neg Bool.false_ne_true]
    simp (config := {implicitDefEqProofs := false}) only [M.bind_assoc]
    refine tr_run (fin1 _) ?_
    rw [f_l3, M.pure_bind]
    refine tr_run (rd_neC List.getElem?_concat_length (by rfl)) ?_
    rw [b_as, M.pure_bind, if_neg Bool.false_ne_true]
    simp (config := {implicitDefEqProofs := false}) only [M.bind_assoc]
    obtain ⟨xs, hx, e⟩ := fin2 (s1 ++ [Cell.lst [mD [[45, 48], [43, 45]], mD [[45, 48], [45, 45]], mD [[45, 48], [48, 45]]]])
    refine tr_run e ?_
    refine tr_run (rd_len List.getElem?_concat_length) ?_
    rw [hx, ne_ii, M.pure_bind, b_as, M.pure_bind, if_neg (by decide)]
    simp (config := {implicitDefEqProofs := false}) only [M.bind_assoc]
    rw [fin4, M.pure_bind, f_l1, M.pure_bind, eq_same (by rfl), M.pure_bind, b_as, M.pure_bind, if_pos rfl]
    simp (config := {implicitDefEqProofs := false}) only [M.bind_assoc]
    refine tr_run (fin3 _) ?_
    rw [f_l1, M.pure_bind]
    refine tr_run (rd_eqC List.getElem?_concat_length (by rfl)) ?_
    rw [b_as, M.pure_bind, if_pos rfl, pow30, M.pure_bind, yes_sizes, M.pure_bind]
    exact tr_pure rfl
theorem law_true (ns : List Int) (hl : ns.length ≤ 63) (hb : ∀ z ∈ ns, Builtin.Int.intBits z ≤ 1048576) : ∃ st', m_law (.scr ns) (tabsL.map fun t => Cell.tab t.1 t.2) = .ok (.bl true) st' := by
  obtain ⟨d, s, e, p⟩ := (law_run ns (tabsL.map fun t => Cell.tab t.1 t.2) ⟨rfl, rfl⟩ (Nat.le_refl _)).ex
  exact ⟨s, by rw [e, p]⟩
end My
namespace My
open PySem PySem.Spec PyProof.Rows L2 DL DH
variable {P : Program} {w : World} {K : PySem.W.Frag} {mg : Str → Option Value} {base : Heap}
def d_is_within : He.DefD := ⟨("is_within", none), "is_within", "is_within", defArgs (top 19), defBody (top 19), defScope (top 19), [], []⟩
def d_is_row : He.DefD := ⟨("is_row", none), "is_row", "is_row", defArgs (top 20), defBody (top 20), defScope (top 20), [], []⟩
def d_is_right_model : He.DefD := ⟨("is_right_model", none), "is_right_model", "is_right_model", defArgs (top 21), defBody (top 21), defScope (top 21), [], []⟩
def d_are_right_sizes : He.DefD := ⟨("are_right_sizes", none), "are_right_sizes", "are_right_sizes", defArgs (top 22), defBody (top 22), defScope (top 22), [], []⟩
def d_need_model : He.DefD := ⟨("need_model", none), "need_model", "need_model", defArgs (top 23), defBody (top 23), defScope (top 23), [], []⟩
def d_unknown_places : He.DefD := ⟨("unknown_places", none), "unknown_places", "unknown_places", defArgs (top 24), defBody (top 24), defScope (top 24), [], []⟩
def d_with_sign : He.DefD := ⟨("with_sign", none), "with_sign", "with_sign", defArgs (top 25), defBody (top 25), defScope (top 25), [], []⟩
def d_all_fillings : He.DefD := ⟨("all_fillings", none), "all_fillings", "all_fillings", defArgs (top 26), defBody (top 26), defScope (top 26), [], []⟩
def d_is_model : He.DefD := ⟨("is_model", none), "is_model", "is_model", defArgs (top 27), defBody (top 27), defScope (top 27), [], []⟩
def d_are_sizes : He.DefD := ⟨("are_sizes", none), "are_sizes", "are_sizes", defArgs (top 28), defBody (top 28), defScope (top 28), [], []⟩
def d_fillings : He.DefD := ⟨("fillings", none), "fillings", "fillings", defArgs (top 29), defBody (top 29), defScope (top 29), [], []⟩
def d_unknown : He.DefD := ⟨("unknown", none), "unknown", "unknown", defArgs (top 30), defBody (top 30), defScope (top 30), [], []⟩
def d__law_source : He.DefD := ⟨("_law_source", none), "_law_source", "_law_source", defArgs (top 32), defBody (top 32), defScope (top 32), [], []⟩
def d__law_pick : He.DefD := ⟨("_law_pick", none), "_law_pick", "_law_pick", defArgs (top 33), defBody (top 33), defScope (top 33), [], []⟩
def d__law_chosen : He.DefD := ⟨("_law_chosen", none), "_law_chosen", "_law_chosen", defArgs (top 34), defBody (top 34), defScope (top 34), [], []⟩
def d__law_is_bool : He.DefD := ⟨("_law_is_bool", none), "_law_is_bool", "_law_is_bool", defArgs (top 35), defBody (top 35), defScope (top 35), [], []⟩
def d__law_any_value : He.DefD := ⟨("_law_any_value", none), "_law_any_value", "_law_any_value", defArgs (top 36), defBody (top 36), defScope (top 36), [], []⟩
def d__law_variant : He.DefD := ⟨("_law_variant", none), "_law_variant", "_law_variant", defArgs (top 37), defBody (top 37), defScope (top 37), [], []⟩
def d__law_whole : He.DefD := ⟨("_law_whole", none), "_law_whole", "_law_whole", defArgs (top 38), defBody (top 38), defScope (top 38), [], []⟩
def d__law_error : He.DefD := ⟨("_law_error", none), "_law_error", "_law_error", defArgs (top 39), defBody (top 39), defScope (top 39), [], []⟩
def d__law_refused : He.DefD := ⟨("_law_refused", none), "_law_refused", "_law_refused", defArgs (top 40), defBody (top 40), defScope (top 40), [], []⟩
def d__law_by_one : He.DefD := ⟨("_law_by_one", none), "_law_by_one", "_law_by_one", defArgs (top 41), defBody (top 41), defScope (top 41), [], []⟩
def d__law_by_two : He.DefD := ⟨("_law_by_two", none), "_law_by_two", "_law_by_two", defArgs (top 42), defBody (top 42), defScope (top 42), [], []⟩
def d__law_drawn_model : He.DefD := ⟨("_law_drawn_model", none), "_law_drawn_model", "_law_drawn_model", defArgs (top 43), defBody (top 43), defScope (top 43), [], []⟩
def d__law_filled : He.DefD := ⟨("_law_filled", none), "_law_filled", "_law_filled", defArgs (top 44), defBody (top 44), defScope (top 44), [], []⟩
def d__law_good_model : He.DefD := ⟨("_law_good_model", none), "_law_good_model", "_law_good_model", defArgs (top 45), defBody (top 45), defScope (top 45), [], []⟩
def d__law_good_sizes : He.DefD := ⟨("_law_good_sizes", none), "_law_good_sizes", "_law_good_sizes", defArgs (top 46), defBody (top 46), defScope (top 46), [], []⟩
def d__law_hidden : He.DefD := ⟨("_law_hidden", none), "_law_hidden", "_law_hidden", defArgs (top 47), defBody (top 47), defScope (top 47), [], []⟩
def d__law_drawn_sizes : He.DefD := ⟨("_law_drawn_sizes", none), "_law_drawn_sizes", "_law_drawn_sizes", defArgs (top 48), defBody (top 48), defScope (top 48), [], []⟩
def d_law : He.DefD := ⟨("law", none), "law", "law", defArgs (top 49), defBody (top 49), defScope (top 49), [], []⟩
def fnL : List He.DefD := [d_is_within, d_is_row, d_is_right_model, d_are_right_sizes, d_need_model, d_unknown_places, d_with_sign, d_all_fillings, d_is_model, d_are_sizes, d_fillings, d_unknown, d__law_source, d__law_pick, d__law_chosen, d__law_is_bool, d__law_any_value, d__law_variant, d__law_whole, d__law_error, d__law_refused, d__law_by_one, d__law_by_two, d__law_drawn_model, d__law_filled, d__law_good_model, d__law_good_sizes, d__law_hidden, d__law_drawn_sizes, d_law]
def fa0 : List He.Fa := [.glo "is_within", .glo "is_row", .glo "is_right_model", .glo "are_right_sizes", .glo "need_model", .glo "unknown_places", .glo "with_sign", .glo "all_fillings", .glo "is_model", .glo "are_sizes", .glo "fillings", .glo "unknown", .glo "_law_source", .glo "_law_pick", .glo "_law_chosen", .glo "_law_is_bool", .glo "_law_any_value", .glo "_law_variant", .glo "_law_whole", .glo "_law_error", .glo "_law_refused", .glo "_law_by_one", .glo "_law_by_two", .glo "_law_drawn_model", .glo "_law_filled", .glo "_law_good_model", .glo "_law_good_sizes", .glo "_law_hidden", .glo "_law_drawn_sizes", .glo "law"]
def fa1 : List He.Fa := [.glo "InvalidLot", .glo "InvalidModel", .glo "InvalidPlace", .glo "InvalidQuantity", .glo "InvalidSeen", .glo "InvalidSign", .glo "InvalidSizes", .glo "InvalidText", .glo "NothingToUndo", .glo "PushError", .glo "TooMany", .glo "Unlike", .free "all", .free "bool", .free "enumerate", .free "int", .free "isinstance", .free "len", .free "list", .free "max", .free "min", .free "range", .free "sorted", .free "str", .free "sum", .free "tuple", .glo "KNOWN_SIGNS", .int "MOST_QUANTITIES" (4), .int "MOST_SIZE" (1000000000000000000000000000000), .int "MOST_UNKNOWN" (4)]
def fa2 : List He.Fa := [.str "UNKNOWN" "?", .exc "InvalidModel", .exm "InvalidModel" "PushError" true]
def faL : List He.Fa := fa0 ++ fa1 ++ fa2
def lo0 : List PySem.Str := ["PushError", "InvalidModel", "InvalidSizes", "InvalidQuantity", "InvalidLot", "InvalidSign", "InvalidPlace", "InvalidSeen", "Unlike", "NothingToUndo", "TooMany", "InvalidText", "MOST_QUANTITIES", "MOST_UNKNOWN", "MOST_SIZE", "KNOWN_SIGNS", "UNKNOWN", "is_within", "is_row", "is_right_model", "are_right_sizes", "need_model", "unknown_places", "with_sign", "all_fillings", "is_model", "are_sizes", "fillings", "unknown", "_law_source"]
def lo1 : List PySem.Str := ["_law_pick", "_law_chosen", "_law_is_bool", "_law_any_value", "_law_variant", "_law_whole", "_law_error", "_law_refused", "_law_by_one", "_law_by_two", "_law_drawn_model", "_law_filled", "_law_good_model", "_law_good_sizes", "_law_hidden", "_law_drawn_sizes"]
def loL : List PySem.Str := lo0 ++ lo1
def tfL : List He.Defn := [("_law_by_one", none), ("_law_by_two", none)]
def tabsN (K : PySem.W.Frag) : List Addr := tabsL.map fun t => (He.cT K (t.1, none)).2
def exL (K : PySem.W.Frag) : Bool := (He.tupB K "KNOWN_SIGNS" [.str "+", .str "-", .str "0"] && ((errCls.all fun c => excCB K (He.ga K c)) && ((errCls.all fun c => errTests.all fun y => kitEB K c y (isEc c y)) && decide (tabsN K).Nodup)))
abbrev R : PySem.W.OpenRow := PySem.W.OpenLaw.row PySem.Challenge.rw_signpushes_k01_models_sizes_and_fillings
abbrev hk : PySem.W.Hook := He.hookX 4 faL fnL [] tfL exL
def ob (s : PySem.W.SharedT) : He.AlX := He.obsX 4 faL fnL [] tfL exL (HandSHeadRun.getT s)
theorem ob_eq (s : PySem.W.SharedT) : ob s = hk.obs s.abs := He.obsX_eq (HandSHeadRun.getT_eq s)
theorem run (w : World) : HandSHeadRun.RunEq R (PySem.W.view R.prog [49]) hk ob 8000 loL w := by
  intro os
  kernel_rfl
theorem fx_of {P : Program} {w w2 : World} {K : PySem.W.Frag} {mg : Str → Option Value} {base h : Heap} (X : K.In h) (G : h.Ns mainGlobals mg) (c : He.SaysX faL fnL [] tfL exL w2 h K) (TB : ∀ t ∈ tfL, LamX.TabB base mg (He.cT K t).1 (He.cT K t).2) : Fx P w K mg base := by
  have c1 : He.SaysD faL fnL K := congrArg (fun z : He.AlT => z.1) c.t
  have F : ∀ f ∈ faL, f.ok K = true := fun f hf => c1.facts hf
  have Dd : ∀ d ∈ fnL, ∃ fd, FunD K d.name d.qual d.params d.body d.scope (d.dvs K) (d.kws K) (He.fAd K d.at_) fd := fun d hd => c1.defs hd
  have e0 : exL K = true := c.more
  obtain ⟨x0, e1⟩ := band e0
  obtain ⟨x1, e2⟩ := band e1
  obtain ⟨x2, e3⟩ := band e2
  exact {
    b_all := He.free_ok X G (F (.free "all") (by simp [faL, fa0, fa1, fa2]))
    b_bool := He.free_ok X G (F (.free "bool") (by simp [faL, fa0, fa1, fa2]))
    b_enumerate := He.free_ok X G (F (.free "enumerate") (by simp [faL, fa0, fa1, fa2]))
    b_int := He.free_ok X G (F (.free "int") (by simp [faL, fa0, fa1, fa2]))
    b_isinstance := He.free_ok X G (F (.free "isinstance") (by simp [faL, fa0, fa1, fa2]))
    b_len := He.free_ok X G (F (.free "len") (by simp [faL, fa0, fa1, fa2]))
    b_list := He.free_ok X G (F (.free "list") (by simp [faL, fa0, fa1, fa2]))
    b_max := He.free_ok X G (F (.free "max") (by simp [faL, fa0, fa1, fa2]))
    b_min := He.free_ok X G (F (.free "min") (by simp [faL, fa0, fa1, fa2]))
    b_range := He.free_ok X G (F (.free "range") (by simp [faL, fa0, fa1, fa2]))
    b_sorted := He.free_ok X G (F (.free "sorted") (by simp [faL, fa0, fa1, fa2]))
    b_str := He.free_ok X G (F (.free "str") (by simp [faL, fa0, fa1, fa2]))
    b_sum := He.free_ok X G (F (.free "sum") (by simp [faL, fa0, fa1, fa2]))
    b_tuple := He.free_ok X G (F (.free "tuple") (by simp [faL, fa0, fa1, fa2]))
    g_is_within := He.glo_ok X G (F (.glo "is_within") (by simp [faL, fa0, fa1, fa2]))
    g_is_row := He.glo_ok X G (F (.glo "is_row") (by simp [faL, fa0, fa1, fa2]))
    g_is_right_model := He.glo_ok X G (F (.glo "is_right_model") (by simp [faL, fa0, fa1, fa2]))
    g_are_right_sizes := He.glo_ok X G (F (.glo "are_right_sizes") (by simp [faL, fa0, fa1, fa2]))
    g_need_model := He.glo_ok X G (F (.glo "need_model") (by simp [faL, fa0, fa1, fa2]))
    g_unknown_places := He.glo_ok X G (F (.glo "unknown_places") (by simp [faL, fa0, fa1, fa2]))
    g_with_sign := He.glo_ok X G (F (.glo "with_sign") (by simp [faL, fa0, fa1, fa2]))
    g_all_fillings := He.glo_ok X G (F (.glo "all_fillings") (by simp [faL, fa0, fa1, fa2]))
    g_is_model := He.glo_ok X G (F (.glo "is_model") (by simp [faL, fa0, fa1, fa2]))
    g_are_sizes := He.glo_ok X G (F (.glo "are_sizes") (by simp [faL, fa0, fa1, fa2]))
    g_fillings := He.glo_ok X G (F (.glo "fillings") (by simp [faL, fa0, fa1, fa2]))
    g_unknown := He.glo_ok X G (F (.glo "unknown") (by simp [faL, fa0, fa1, fa2]))
    g__law_source := He.glo_ok X G (F (.glo "_law_source") (by simp [faL, fa0, fa1, fa2]))
    g__law_pick := He.glo_ok X G (F (.glo "_law_pick") (by simp [faL, fa0, fa1, fa2]))
    g__law_chosen := He.glo_ok X G (F (.glo "_law_chosen") (by simp [faL, fa0, fa1, fa2]))
    g__law_is_bool := He.glo_ok X G (F (.glo "_law_is_bool") (by simp [faL, fa0, fa1, fa2]))
    g__law_any_value := He.glo_ok X G (F (.glo "_law_any_value") (by simp [faL, fa0, fa1, fa2]))
    g__law_variant := He.glo_ok X G (F (.glo "_law_variant") (by simp [faL, fa0, fa1, fa2]))
    g__law_whole := He.glo_ok X G (F (.glo "_law_whole") (by simp [faL, fa0, fa1, fa2]))
    g__law_error := He.glo_ok X G (F (.glo "_law_error") (by simp [faL, fa0, fa1, fa2]))
    g__law_refused := He.glo_ok X G (F (.glo "_law_refused") (by simp [faL, fa0, fa1, fa2]))
    g__law_by_one := He.glo_ok X G (F (.glo "_law_by_one") (by simp [faL, fa0, fa1, fa2]))
    g__law_by_two := He.glo_ok X G (F (.glo "_law_by_two") (by simp [faL, fa0, fa1, fa2]))
    g__law_drawn_model := He.glo_ok X G (F (.glo "_law_drawn_model") (by simp [faL, fa0, fa1, fa2]))
    g__law_filled := He.glo_ok X G (F (.glo "_law_filled") (by simp [faL, fa0, fa1, fa2]))
    g__law_good_model := He.glo_ok X G (F (.glo "_law_good_model") (by simp [faL, fa0, fa1, fa2]))
    g__law_good_sizes := He.glo_ok X G (F (.glo "_law_good_sizes") (by simp [faL, fa0, fa1, fa2]))
    g__law_hidden := He.glo_ok X G (F (.glo "_law_hidden") (by simp [faL, fa0, fa1, fa2]))
    g__law_drawn_sizes := He.glo_ok X G (F (.glo "_law_drawn_sizes") (by simp [faL, fa0, fa1, fa2]))
    g_law := He.glo_ok X G (F (.glo "law") (by simp [faL, fa0, fa1, fa2]))
    d_is_within := Dd d_is_within (by simp [fnL])
    d_is_row := Dd d_is_row (by simp [fnL])
    d_is_right_model := Dd d_is_right_model (by simp [fnL])
    d_are_right_sizes := Dd d_are_right_sizes (by simp [fnL])
    d_need_model := Dd d_need_model (by simp [fnL])
    d_unknown_places := Dd d_unknown_places (by simp [fnL])
    d_with_sign := Dd d_with_sign (by simp [fnL])
    d_all_fillings := Dd d_all_fillings (by simp [fnL])
    d_is_model := Dd d_is_model (by simp [fnL])
    d_are_sizes := Dd d_are_sizes (by simp [fnL])
    d_fillings := Dd d_fillings (by simp [fnL])
    d_unknown := Dd d_unknown (by simp [fnL])
    d__law_source := Dd d__law_source (by simp [fnL])
    d__law_pick := Dd d__law_pick (by simp [fnL])
    d__law_chosen := Dd d__law_chosen (by simp [fnL])
    d__law_is_bool := Dd d__law_is_bool (by simp [fnL])
    d__law_any_value := Dd d__law_any_value (by simp [fnL])
    d__law_variant := Dd d__law_variant (by simp [fnL])
    d__law_whole := Dd d__law_whole (by simp [fnL])
    d__law_error := Dd d__law_error (by simp [fnL])
    d__law_refused := Dd d__law_refused (by simp [fnL])
    d__law_by_one := Dd d__law_by_one (by simp [fnL])
    d__law_by_two := Dd d__law_by_two (by simp [fnL])
    d__law_drawn_model := Dd d__law_drawn_model (by simp [fnL])
    d__law_filled := Dd d__law_filled (by simp [fnL])
    d__law_good_model := Dd d__law_good_model (by simp [fnL])
    d__law_good_sizes := Dd d__law_good_sizes (by simp [fnL])
    d__law_hidden := Dd d__law_hidden (by simp [fnL])
    d__law_drawn_sizes := Dd d__law_drawn_sizes (by simp [fnL])
    d_law := Dd d_law (by simp [fnL])
    v_KNOWN_SIGNS := He.glo_ok X G (F (.glo "KNOWN_SIGNS") (by simp [faL, fa0, fa1, fa2]))
    r_KNOWN_SIGNS := fun W H => ⟨_, _, rfl, .inr (He.tupB_ok x0 _), by decide, ⟨_, _, rfl, ⟨rfl, rfl⟩, ⟨_, _, rfl, ⟨rfl, rfl⟩, ⟨_, _, rfl, ⟨rfl, rfl⟩, rfl⟩⟩⟩⟩
    v_MOST_QUANTITIES := He.int_ok X G (F (.int "MOST_QUANTITIES" (4)) (by simp [faL, fa0, fa1, fa2]))
    v_MOST_SIZE := He.int_ok X G (F (.int "MOST_SIZE" (1000000000000000000000000000000)) (by simp [faL, fa0, fa1, fa2]))
    v_MOST_UNKNOWN := He.int_ok X G (F (.int "MOST_UNKNOWN" (4)) (by simp [faL, fa0, fa1, fa2]))
    v_UNKNOWN := He.str_ok X G (F (.str "UNKNOWN" "?") (by simp [faL, fa0, fa1, fa2]))
    e_InvalidModel := errC_of (F (.exc "InvalidModel") (by simp [faL, fa0, fa1, fa2])) (He.glo_ok X G (F (.glo "InvalidModel") (by simp [faL, fa0, fa1, fa2])))
    x_err := fun c hc => excCB_ok (List.all_eq_true.mp x1 c hc)
    k_err := fun c hc y hy => of_decide_eq_true (List.all_eq_true.mp (List.all_eq_true.mp x2 c hc) y hy)
    p_err := fun c hc => by
      simp only [errCls, List.mem_cons, List.not_mem_nil, or_false] at hc
      subst hc
      exact He.exm_ok (F (.exm "InvalidModel" "PushError" true) (by simp [faL, fa0, fa1, fa2]))
    g_InvalidLot := He.glo_ok X G (F (.glo "InvalidLot") (by simp [faL, fa0, fa1, fa2]))
    g_InvalidModel := He.glo_ok X G (F (.glo "InvalidModel") (by simp [faL, fa0, fa1, fa2]))
    g_InvalidPlace := He.glo_ok X G (F (.glo "InvalidPlace") (by simp [faL, fa0, fa1, fa2]))
    g_InvalidQuantity := He.glo_ok X G (F (.glo "InvalidQuantity") (by simp [faL, fa0, fa1, fa2]))
    g_InvalidSeen := He.glo_ok X G (F (.glo "InvalidSeen") (by simp [faL, fa0, fa1, fa2]))
    g_InvalidSign := He.glo_ok X G (F (.glo "InvalidSign") (by simp [faL, fa0, fa1, fa2]))
    g_InvalidSizes := He.glo_ok X G (F (.glo "InvalidSizes") (by simp [faL, fa0, fa1, fa2]))
    g_InvalidText := He.glo_ok X G (F (.glo "InvalidText") (by simp [faL, fa0, fa1, fa2]))
    g_NothingToUndo := He.glo_ok X G (F (.glo "NothingToUndo") (by simp [faL, fa0, fa1, fa2]))
    g_PushError := He.glo_ok X G (F (.glo "PushError") (by simp [faL, fa0, fa1, fa2]))
    g_TooMany := He.glo_ok X G (F (.glo "TooMany") (by simp [faL, fa0, fa1, fa2]))
    g_Unlike := He.glo_ok X G (F (.glo "Unlike") (by simp [faL, fa0, fa1, fa2]))
    t__law_by_one := TB ("_law_by_one", none) (by simp [tfL])
    t__law_by_two := TB ("_law_by_two", none) (by simp [tfL]) }
theorem law_at {w : World} {K : PySem.W.Frag} {mg : Str → Option Value} {h : Heap} (KX : K.In h) (G : h.Ns mainGlobals mg) (c : He.SaysX faL fnL [] tfL exL w h K) : ∃ K2 : PySem.W.Frag, K2.In h ∧ LamX.LawAtS PySem.Challenge.rw_signpushes_k01_models_sizes_and_fillings w K2 (L2N.CX (PySem.Challenge.rw_signpushes_k01_models_sizes_and_fillings).prog w) 17 63 "script" mg (He.ga K "law") h := by
  have c1 : He.SaysD faL fnL K := congrArg (fun z : He.AlT => z.1) c.t
  obtain ⟨fd0, F0⟩ := c1.defs (d := d_law) (by simp [fnL])
  obtain ⟨oc, od, dV, kV, doc, pm, an, cdv, ct, osl, efd, lk, hcd, hD, hK⟩ := F0.ex
  have nd : (tabsN K).Nodup := by
    have e0 : exL K = true := c.more
    obtain ⟨x0, e1⟩ := band e0
    obtain ⟨x1, e2⟩ := band e1
    obtain ⟨x2, e3⟩ := band e2
    exact of_decide_eq_true e3
  refine ⟨K, KX, fd0, tfL.map (He.cT K), SpD K 1 (mk1 m_law), fun p hp => ?_, fun p hp => ?_, fun p hp => ?_, fun s u => FunD.bindsA (ps := ["script"]) F0 (fun _ _ _ _ _ _ us hl => match us, hl with | [_], _ => rfl) s [u] rfl, fun H a ns hl hb hT hS => ?_, fun base KB G' TB => ?_⟩
  · obtain ⟨t, ht, rfl⟩ := List.mem_map.mp hp
    exact c.empty t ht
  · obtain ⟨t, ht, rfl⟩ := List.mem_map.mp hp
    exact c.out t ht
  · obtain ⟨t, ht, rfl⟩ := List.mem_map.mp hp
    exact PySem.W.codeHd_of_K KX (c.hd t ht)
  · refine sp_start (tabs := tabsL) nd (fun t ht => hT _ (List.mem_map.mpr ⟨(t.1, none), ?_, rfl⟩)) hS (law_true ns hl hb)
    simp only [tabsL, List.mem_cons, List.not_mem_nil, or_false] at ht
    rcases ht with rfl | rfl <;> simp [tfL]
  · have fx : Fx (PySem.Challenge.rw_signpushes_k01_models_sizes_and_fillings).prog w K mg base := fx_of KX G c fun t ht => TB _ (List.mem_map.mpr ⟨t, ht, rfl⟩)
    exact law_fn fx F0

end My
open PySem PySem.W PySem.Calls PyProof.Rows
theorem PySem.Challenge.cw_signpushes_k01_models_sizes_and_fillings_holds : PySem.Challenge.rw_signpushes_k01_models_sizes_and_fillings.Holds := by
  w_on; o_law
  refine HandSHeadRun.head_any (r := OpenLaw.row PySem.Challenge.rw_signpushes_k01_models_sizes_and_fillings) (q := view (OpenLaw.row PySem.Challenge.rw_signpushes_k01_models_sizes_and_fillings).prog [49]) (H := My.hk) (ob := My.ob) (M := 8000) (loose := My.loL) (d := HandSHeadRun.topDef (OpenLaw.row PySem.Challenge.rw_signpushes_k01_models_sizes_and_fillings).prog 49) (kwd := []) My.ob_eq (by kernel_rfl) (fun s => by kernel_rfl) My.run (by kernel_rfl) (by kernel_rfl) (by kernel_rfl) (by rfl) (by first | assumption | decide +kernel) (by decide +kernel) ⟨rfl, rfl, rfl, rfl, rfl, by decide +kernel⟩ ?hw ?hc
  case hw => w_witness2
  case hc =>
    refine LamX.walk_ofTsE (l := PySem.Challenge.rw_signpushes_k01_models_sizes_and_fillings) (n := 63) (k := 17) (x := "script") (CX := fun w => L2N.CX (PySem.Challenge.rw_signpushes_k01_models_sizes_and_fillings).prog w) rfl (by decide) (by kernel_rfl) ⟨rfl, by decide, by decide⟩ ?F (fun w H s e s' z => by
      obtain ⟨_, _, _, _, _, _, _, _, _, _, _, _, z⟩ := z
      exact z)
    intro w mg fa h Y G hmg0
    obtain ⟨K, KX, c⟩ := Y
    have hmg : mg ("law" : PySem.Str) = some (.ref fa) := by
      have e : (HandSHeadRun.topDef (OpenLaw.row PySem.Challenge.rw_signpushes_k01_models_sizes_and_fillings).prog 49).name = ("law" : PySem.Str) := by kernel_rfl
      rw [← e]
      exact hmg0
    have c1 : He.SaysD My.faL My.fnL K := congrArg (fun z : He.AlT => z.1) c.t
    have e := hmg.symm.trans (He.glo_ok KX G (c1.facts (f := .glo "law") (by simp [My.faL, My.fa0, My.fa1, My.fa2])))
    cases e
    exact My.law_at KX G c
