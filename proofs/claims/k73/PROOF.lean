import PyProof.Rows.All
import Wide.All
import OpenK.AllK
import Wide.FinOn
import HandS.ForMost
import HandS.More
import HandS.WordsExc
import HandS.CallSlots
import HandS.Deep
import HandS.TupAny
import HandS.Conv
import HandS.HeadHook2
import HandS.HeadHook4
import HandS.Lambda
import HandS.Wide
import HandS.TupMul
import HandS.IsInst
import PyProof.StrOps2
import HandS.Style
import KE.SortData
import HandS.ExcCtx
import HandS.Text
import HandS.Iter
import KE.GoesEnum
import HandS.HotCalls
import HandS.ExcIs
import HandS.CallLocal
import HandS.HeadWalk
import HandS.Head0
import HandS.Head1
import HandS.Head2
import HandS.HeadEnd
import HandS.Head3
import HandS.Zip
import HandS.Dict
import KE.DataMinMax
import HandS.Strs
import PyProof.Rows.SetFrom
import PyProof.ListNew
import KE.KDictWalk
import HandS.ExcInit
import HandS.ExcField
import HandS.FStr
import KE.KExcSuper
import HandS.ClsMeth
import HandS.Property
import HandS.Star
import PyProof.FitsInt
import HandS.HeadNt
import HandS.GenList
import KE.KWithOwn
import HandS.Finally
import PyProof.InstNe
import OpenK.KOps
import HandS.Defaults
import PySem.Challenge.RW_signpushes_k73_whole_attempts_at_desks
set_option Elab.async false
set_option linter.all false
set_option maxRecDepth 100000
set_option maxHeartbeats 0
/-! DL1: data, the world, the monad of the mirrors. -/
namespace DL
open PySem PySem.Spec L2

abbrev St := L2.St
/-- a value as data. scr: the script; fn: what the module's name stands for (a def, a class); ref: a cell of the store -/
inductive D where
  | non | bl (b : Bool) | int (i : Int) | str (cs : List Nat) | lst (xs : List D) | tup (xs : List D) | scr (ns : List Int) | fn (x : Str) | ref (i : Nat) | adr (a : Addr) | kt (ks : List (List Nat))

/-- a text by its codes -/
abbrev mkS (cs : List Nat) : Str := ⟨cs.toArray⟩
theorem mkS_cps (cs : List Nat) : (mkS cs).cps.toList = cs := rfl
theorem mkS_of (z : Str) : mkS z.cps.toList = z := by cases z; simp [mkS]
theorem mkS_len (cs : List Nat) : (mkS cs).length = cs.length := by
  show cs.toArray.size = cs.length
  simp

/-- what a text's codes are -/
def sOk (cs : List Nat) : Bool := decide (cs.length ≤ 16777216) && cs.all fun c => decide (c < 1114112)

/-- a cell of the store: what may change -/
inductive Cell where
  | lst (xs : List D)
  | ins (C : Str) (fs : List (Str × D))
  | dead
  | tab (x q : Str)
  | tabG (x : Option Str) (q : Str) (l m : Nat) (made : Option Nat)
  | dic (kvs : List (List L2.Key × D))
  | lck (kvs : List (List L2.Key × D))
abbrev Store := List Cell

/-- an error: its class by the module's name, its field -/
structure Ex where
  cls : Str
  fs : List (Str × D) := []

inductive R (α : Type) where
  | ok (a : α) (s : Store)
  | exc (e : Ex) (s : Store)
  | stuck
def M (α : Type) := Store → R α
namespace M
variable {α β γ : Type}
def pure (a : α) : M α := fun s => .ok a s
def bind (m : M α) (f : α → M β) : M β := fun s => match m s with
  | .ok a s' => f a s'
  | .exc e s' => .exc e s'
  | .stuck => .stuck
def stuck : M α := fun _ => .stuck
def throw (e : Ex) : M α := fun s => .exc e s
end M
instance : Monad M where
  pure := M.pure
  bind := M.bind
section
variable {α β γ : Type}
theorem M.pure_eq (a : α) : (Pure.pure a : M α) = M.pure a := rfl
theorem M.bind_eq (m : M α) (f : α → M β) : m >>= f = M.bind m f := rfl
@[simp] theorem M.pure_bind (a : α) (f : α → M β) : (Pure.pure a : M α) >>= f = f a := rfl
@[simp] theorem M.stuck_bind (f : α → M β) : (M.stuck : M α) >>= f = M.stuck := rfl
@[simp] theorem M.throw_bind (e : Ex) (f : α → M β) : (M.throw e : M α) >>= f = M.throw e := rfl
@[simp] theorem M.bind_pure (m : M α) : m >>= Pure.pure = m := by
  funext s
  show (match m s with | .ok a s' => .ok a s' | .exc e s' => .exc e s' | .stuck => .stuck) = m s
  cases m s <;> rfl
@[simp] theorem M.bind_assoc (m : M α) (f : α → M β) (g : β → M γ) : (m >>= f) >>= g = m >>= fun x => f x >>= g := by
  funext s
  show (match (match m s with | .ok a s' => f a s' | .exc e s' => .exc e s' | .stuck => .stuck : R β) with | .ok a s' => g a s' | .exc e s' => .exc e s' | .stuck => .stuck) =
    (match m s with | .ok a s' => (match f a s' with | .ok a s' => g a s' | .exc e s' => .exc e s' | .stuck => .stuck) | .exc e s' => .exc e s' | .stuck => .stuck : R γ)
  cases m s <;> rfl
end

/-- the world of a frame: where the store's cells stand, and the addresses that no (frozen) datum leans on -/
structure Wd where
  mu : List Addr
  U : Addr → Prop

section
variable (K : PySem.W.Frag) (W : Wd) (H : Hp)
mutual
/-- the value stands for the datum -/
def Rep : V → D → Prop
  | v, .non => v = .non
  | v, .bl b => v = .bl b
  | v, .int i => v = .int i
  | v, .str cs => v = .str (mkS cs) ∧ sOk cs = true
  | v, .lst xs => ∃ a vs, v = .ref a ∧ ¬ W.U a ∧ H a = some (.lst vs) ∧ xs.length ≤ 16777216 ∧ Reps vs xs
  | v, .tup xs => ∃ a vs, v = .ref a ∧ ((¬ W.U a ∧ H a = some (.tup vs)) ∨ SqT K (fun _ => none) a vs) ∧ xs.length ≤ 16777216 ∧ Reps vs xs
  | v, .scr ns => ∃ a, v = .ref a ∧ ((¬ W.U a ∧ ∃ o, (o = .lst (ns.map V.int) ∨ ∃ ob, o = .frz ob (.lst (ns.map V.int))) ∧ H a = some o) ∨ SqL K (fun _ => none) a (ns.map V.int))
  | v, .fn x => v = .ref (He.ga K x)
  | v, .adr a => v = .ref a
  | v, .kt ks => ∃ a, v = .ref a ∧ ¬ W.U a ∧ H a = some (.tup (ks.map fun k => V.str (mkS k)))
  | v, .ref i => ∃ a, v = .ref a ∧ W.mu[i]? = some a
def Reps : List V → List D → Prop
  | vs, [] => vs = []
  | vs, d :: ds => ∃ v r, vs = v :: r ∧ Rep v d ∧ Reps r ds
end
end
end DL
/-! DL2: the world's changes, the store, the slots, the judgements. -/
namespace DL
open PySem PySem.Spec L2

structure Ext (W W' : Wd) (H H' : Hp) : Prop where
  mu : ∃ t, W'.mu = W.mu ++ t ∧ ∀ a ∈ t, H a = none
  u0 : ∀ a o, W.U a → a ∉ W.mu → H a = some o → W'.U a
  new : ∀ a, W'.U a → W.U a ∨ H a = none
  keep : ∀ a o, (W.U a → a ∉ W.mu) → H a = some o → H' a = some o
  dom : ∀ a o, H a = some o → ∃ o', H' a = some o'
section
variable {K : PySem.W.Frag} {W W' W'' W1 W2 : Wd} {H H' H'' H1 H2 : Hp} {v : V} {d : D} {vs : List V} {ds : List D}
theorem Ext.refl : Ext W W H H := ⟨⟨[], by simp, by simp⟩, fun _ _ h _ _ => h, fun _ h => .inl h, fun _ _ _ h => h, fun _ o h => ⟨o, h⟩⟩
theorem Ext.rfl' : Ext W W H H := Ext.refl
theorem Ext.memMu (e : Ext W W' H H') {a : Addr} (h : a ∈ W'.mu) : a ∈ W.mu ∨ H a = none := by
  obtain ⟨t, e1, e2⟩ := e.mu
  rw [e1] at h
  rcases List.mem_append.mp h with h | h
  · exact .inl h
  · exact .inr (e2 a h)
theorem Ext.inMu (e : Ext W W' H H') {a : Addr} (h : a ∈ W.mu) : a ∈ W'.mu := by
  obtain ⟨t, e1, e2⟩ := e.mu
  rw [e1]
  exact List.mem_append_left _ h
theorem Ext.free (e : Ext W W' H H') {a : Addr} (h : H' a = Option.none) : H a = Option.none := by
  cases q : H a with
  | none => rfl
  | some o =>
    obtain ⟨o', z⟩ := e.dom a o q
    rw [h] at z
    cases z
theorem Ext.trans (e1 : Ext W W1 H H1) (e2 : Ext W1 W2 H1 H2) : Ext W W2 H H2 := by
  refine ⟨?_, fun x o hu hm h => ?_, fun x h => ?_, fun x o hu h => ?_, fun x o h => ?_⟩
  · obtain ⟨t, m1, n1⟩ := e1.mu
    obtain ⟨t', m2, n2⟩ := e2.mu
    refine ⟨t ++ t', by rw [m2, m1, List.append_assoc], fun x hx => ?_⟩
    rcases List.mem_append.mp hx with hx | hx
    · exact n1 x hx
    · exact e1.free (n2 x hx)
  · have h1 := e1.keep x o (fun _ => hm) h
    refine e2.u0 x o (e1.u0 x o hu hm h) (fun q => ?_) h1
    rcases e1.memMu q with z | z
    · exact hm z
    · rw [h] at z; cases z
  · rcases e2.new x h with q | q
    · exact e1.new x q
    · exact .inr (e1.free q)
  · have h1 := e1.keep x o hu h
    refine e2.keep x o (fun q m => ?_) h1
    rcases e1.new x q with z | z
    · rcases e1.memMu m with y | y
      · exact hu z y
      · rw [h] at y; cases y
    · rw [h] at z; cases z
  · obtain ⟨o', q⟩ := e1.dom x o h
    exact e2.dom x o' q

theorem Ext.at (e : Ext W W' H H') {a : Addr} {o : HO} (nu : ¬ W.U a) (h : H a = some o) : ¬ W'.U a ∧ H' a = some o := by
  refine ⟨fun z => ?_, e.keep a o (fun z => absurd z nu) h⟩
  rcases e.new a z with z | z
  · exact nu z
  · rw [h] at z
    cases z
mutual
theorem Rep.ext (e : Ext W W' H H') : ∀ (d : D) (v : V), Rep K W H v d → Rep K W' H' v d
  | .non, _, h => h
  | .bl _, _, h => h
  | .int _, _, h => h
  | .str _, _, h => h
  | .lst xs, _, h => by
    obtain ⟨a, vs, rfl, nu, ha, hz, r⟩ := h
    obtain ⟨n1, n2⟩ := e.at nu ha
    exact ⟨a, vs, rfl, n1, n2, hz, Reps.ext e xs vs r⟩
  | .tup xs, _, h => by
    obtain ⟨a, vs, rfl, h1, hz, r⟩ := h
    refine ⟨a, vs, rfl, ?_, hz, Reps.ext e xs vs r⟩
    rcases h1 with ⟨nu, ha⟩ | h1
    · exact .inl (e.at nu ha)
    · exact .inr h1
  | .scr ns, _, h => by
    obtain ⟨a, rfl, h1⟩ := h
    refine ⟨a, rfl, ?_⟩
    rcases h1 with ⟨nu, o, ho, ha⟩ | h1
    · obtain ⟨n1, n2⟩ := e.at nu ha
      exact .inl ⟨n1, o, ho, n2⟩
    · exact .inr h1
  | .fn _, _, h => h
  | .adr _, _, h => h
  | .kt ks, _, h => by
    obtain ⟨a, rfl, nu, ha⟩ := h
    obtain ⟨n1, n2⟩ := e.at nu ha
    exact ⟨a, rfl, n1, n2⟩
  | .ref i, _, h => by
    obtain ⟨a, rfl, h⟩ := h
    obtain ⟨t, m, _⟩ := e.mu
    refine ⟨a, rfl, ?_⟩
    rw [m, List.getElem?_append_left (List.getElem?_eq_some_iff.mp h).1]
    exact h
theorem Reps.ext (e : Ext W W' H H') : ∀ (ds : List D) (vs : List V), Reps K W H vs ds → Reps K W' H' vs ds
  | [], _, h => h
  | d :: ds, _, h => by
    obtain ⟨v, r, rfl, h1, h2⟩ := h
    exact ⟨v, r, rfl, Rep.ext e d v h1, Reps.ext e ds r h2⟩
end

/-! ### lists of values -/
theorem Reps.length : ∀ {ds : List D} {vs : List V}, Reps K W H vs ds → vs.length = ds.length
  | [], _, h => by
    have h' : _ = [] := h
    rw [h']; rfl
  | d :: ds, _, h => by
    obtain ⟨v, r, rfl, _, h2⟩ := h
    rw [List.length_cons, List.length_cons, Reps.length h2]
theorem Reps.nil : Reps K W H [] [] := rfl
theorem Reps.cons (h1 : Rep K W H v d) (h2 : Reps K W H vs ds) : Reps K W H (v :: vs) (d :: ds) := ⟨v, vs, rfl, h1, h2⟩
theorem Reps.uncons (h : Reps K W H vs (d :: ds)) : ∃ v r, vs = v :: r ∧ Rep K W H v d ∧ Reps K W H r ds := h
theorem Reps.get : ∀ {ds : List D} {vs : List V} {i : Nat} {d : D}, Reps K W H vs ds → ds[i]? = some d → ∃ v, vs[i]? = some v ∧ Rep K W H v d
  | [], _, _, _, _, e => by simp at e
  | _ :: _, _, 0, _, h, e => by
    obtain ⟨v, r, rfl, h1, _⟩ := h
    simp at e; subst e
    exact ⟨v, rfl, h1⟩
  | _ :: ds, _, i + 1, d, h, e => by
    obtain ⟨v, r, rfl, _, h2⟩ := h
    obtain ⟨w, q1, q2⟩ := Reps.get (i := i) (d := d) h2 (by simpa using e)
    exact ⟨w, by simpa using q1, q2⟩
theorem Reps.append : ∀ {ds es : List D} {vs ws : List V}, Reps K W H vs ds → Reps K W H ws es → Reps K W H (vs ++ ws) (ds ++ es)
  | [], _, _, _, h, h' => by
    have q : _ = [] := h
    rw [q]; exact h'
  | d :: ds, es, _, _, h, h' => by
    obtain ⟨v, r, rfl, h1, h2⟩ := h
    exact ⟨v, _, rfl, h1, Reps.append h2 h'⟩
theorem Reps.take : ∀ {ds : List D} {vs : List V} (n : Nat), Reps K W H vs ds → Reps K W H (vs.take n) (ds.take n)
  | _, _, 0, _ => rfl
  | [], _, n + 1, h => by
    have q : _ = [] := h
    rw [q]; rfl
  | d :: ds, _, n + 1, h => by
    obtain ⟨v, r, rfl, h1, h2⟩ := h
    exact ⟨v, _, rfl, h1, Reps.take n h2⟩
theorem Reps.drop : ∀ {ds : List D} {vs : List V} (n : Nat), Reps K W H vs ds → Reps K W H (vs.drop n) (ds.drop n)
  | _, _, 0, h => h
  | [], _, n + 1, h => by
    have q : _ = [] := h
    rw [q]; rfl
  | d :: ds, _, n + 1, h => by
    obtain ⟨v, r, rfl, h1, h2⟩ := h
    exact Reps.drop n h2
theorem Reps.set : ∀ {ds : List D} {vs : List V} (n : Nat), Rep K W H v d → Reps K W H vs ds → Reps K W H (vs.set n v) (ds.set n d)
  | [], _, n, _, h => by
    have q : _ = [] := h
    rw [q]; rfl
  | e :: ds, _, 0, h0, h => by
    obtain ⟨v', r, rfl, h1, h2⟩ := h
    exact ⟨v, _, rfl, h0, h2⟩
  | e :: ds, _, n + 1, h0, h => by
    obtain ⟨v', r, rfl, h1, h2⟩ := h
    exact ⟨v', _, rfl, h1, Reps.set n h0 h2⟩
theorem Reps.reverse : ∀ {ds : List D} {vs : List V}, Reps K W H vs ds → Reps K W H vs.reverse ds.reverse
  | [], _, h => by
    have q : _ = [] := h
    rw [q]; rfl
  | d :: ds, _, h => by
    obtain ⟨v, r, rfl, h1, h2⟩ := h
    rw [List.reverse_cons, List.reverse_cons]
    exact (Reps.reverse h2).append (.cons h1 .nil)
/-- data of one plain kind -/
theorem Reps.ints : ∀ {ns : List Int} {vs : List V}, Reps K W H vs (ns.map D.int) → vs = ns.map V.int
  | [], _, h => h
  | n :: ns, _, h => by
    obtain ⟨v, r, rfl, h1, h2⟩ := h
    have h1' : v = .int n := h1
    rw [h1', Reps.ints h2]; rfl
theorem Reps.bls : ∀ {ns : List Bool} {vs : List V}, Reps K W H vs (ns.map D.bl) → vs = ns.map V.bl
  | [], _, h => h
  | n :: ns, _, h => by
    obtain ⟨v, r, rfl, h1, h2⟩ := h
    have h1' : v = .bl n := h1
    rw [h1', Reps.bls h2]; rfl
theorem Reps.strs : ∀ {ns : List (List Nat)} {vs : List V}, Reps K W H vs (ns.map D.str) → vs = (ns.map mkS).map V.str
  | [], _, h => h
  | n :: ns, _, h => by
    obtain ⟨v, r, rfl, h1, h2⟩ := h
    obtain ⟨h1', _⟩ : v = .str (mkS n) ∧ sOk n = true := h1
    rw [h1', Reps.strs h2]; rfl
theorem Reps.ofInts : ∀ (ns : List Int), Reps K W H (ns.map V.int) (ns.map D.int)
  | [] => rfl
  | n :: ns => ⟨_, _, rfl, rfl, Reps.ofInts ns⟩
theorem Reps.ofBls : ∀ (ns : List Bool), Reps K W H (ns.map V.bl) (ns.map D.bl)
  | [] => rfl
  | n :: ns => ⟨_, _, rfl, rfl, Reps.ofBls ns⟩
theorem Reps.ofStrs : ∀ (ns : List (List Nat)), (∀ n ∈ ns, sOk n = true) → Reps K W H ((ns.map mkS).map V.str) (ns.map D.str)
  | [], _ => rfl
  | n :: ns, h => ⟨_, _, rfl, ⟨rfl, h n List.mem_cons_self⟩, Reps.ofStrs ns fun m hm => h m (List.mem_cons_of_mem _ hm)⟩
theorem Reps.strOk : ∀ {ns : List (List Nat)} {vs : List V}, Reps K W H vs (ns.map D.str) → ∀ n ∈ ns, sOk n = true
  | [], _, _, _, h => nomatch h
  | n :: ns, _, h, m, hm => by
    obtain ⟨v, r, rfl, h1, h2⟩ := h
    rcases List.mem_cons.mp hm with e | hm
    · rw [e]; exact h1.2
    · exact Reps.strOk h2 m hm
theorem sOk_iff {cs : List Nat} : sOk cs = true ↔ cs.length ≤ 16777216 ∧ ∀ c ∈ cs, c < 1114112 := by
  unfold sOk
  rw [Bool.and_eq_true, decide_eq_true_eq, List.all_eq_true]
  simp
theorem Rep.tupLen {ds : List D} (h : Rep K W H v (.tup ds)) : ds.length ≤ 16777216 := by
  obtain ⟨a, vs, _, _, hz, _⟩ := h
  exact hz
theorem Rep.lstLen {ds : List D} (h : Rep K W H v (.lst ds)) : ds.length ≤ 16777216 := by
  obtain ⟨a, vs, _, _, _, hz, _⟩ := h
  exact hz
/-- a tuple to be read -/
theorem Rep.tupSq {ds : List D} (h : Rep K W H v (.tup ds)) : ∃ a vs, v = .ref a ∧ SqT K H a vs ∧ Reps K W H vs ds := by
  obtain ⟨a, vs, rfl, h1, _, r⟩ := h
  refine ⟨a, vs, rfl, ?_, r⟩
  rcases h1 with ⟨_, h1⟩ | h1
  · exact SqT.of h1
  · rcases h1 with h1 | h1
    · rcases h1 with h1 | ⟨o, h1⟩ <;> cases h1
    · exact .inr h1
theorem Rep.scrSq {ns : List Int} (h : Rep K W H v (.scr ns)) : ∃ a, v = .ref a ∧ SqL K H a (ns.map V.int) := by
  obtain ⟨a, rfl, h1⟩ := h
  refine ⟨a, rfl, ?_⟩
  rcases h1 with ⟨_, o, ho, h1⟩ | h1
  · rcases ho with ho | ⟨ob, ho⟩
    · subst ho; exact .inl (.inl h1)
    · subst ho; exact .inl (.inr ⟨ob, h1⟩)
  · rcases h1 with h1 | h1
    · rcases h1 with h1 | ⟨o, h1⟩ <;> cases h1
    · exact .inr h1

/-! ### the store -/
/-- the fields of an instance -/
def FsOk {κ : Type} (K : PySem.W.Frag) (W : Wd) (H : Hp) : List (κ × V) → List (κ × D) → Prop
  | vfs, [] => vfs = []
  | vfs, (x, d) :: fs => ∃ v r, vfs = (x, v) :: r ∧ Rep K W H v d ∧ FsOk K W H r fs
theorem FsOk.ext {κ : Type} (e : Ext W W' H H') : ∀ {fs : List (κ × D)} {vfs : List (κ × V)}, FsOk K W H vfs fs → FsOk K W' H' vfs fs
  | [], _, h => h
  | (x, d) :: fs, _, h => by
    obtain ⟨v, r, rfl, h1, h2⟩ := h
    exact ⟨v, r, rfl, h1.ext e, FsOk.ext e h2⟩
/-- a code object of the name q, its own table at P -/
def CodeN (c : Addr) (q : Str) (P : Addr) : HO := .ext fun h => (∃ (oc : Obj) (vs : Array Value) (t : Tok), h.get? c = some oc ∧ oc.data = .fields vs ∧ vs[1]? = some (.str q t)) ∧ PySem.W.CodeHd h c P
/-- one entry of such a table: at (l, m) stands the one that is watched -/
def EntOk (W : Wd) (H : Hp) (c : Addr) (q : Str) (l m : Nat) (made : Option Nat) (pos : Pos) : Prop :=
  (¬ (pos.line = l ∧ pos.col = m) ∧ ∃ P', H c = some (CodeN c q P')) ∨ ((pos.line = l ∧ pos.col = m) ∧ ∃ j P', made = some j ∧ W.mu[j]? = some P' ∧ H c = some (CodeN c q P'))
def CellOk (K : PySem.W.Frag) (W : Wd) (H : Hp) (a : Addr) : Cell → Prop
  | .lst xs => W.U a ∧ ∃ vs, H a = some (.lst vs) ∧ xs.length ≤ 16777216 ∧ Reps K W H vs xs
  | .ins C fs => W.U a ∧ ∃ dx vfs, H a = some (.ins (He.ga K C) dx vfs) ∧ FsOk K W H vfs fs
  | .dic fs => W.U a ∧ ∃ vfs, H a = some (.dT vfs) ∧ FsOk K W H vfs fs
  | .lck fs => ¬ W.U a ∧ ∃ od vfs, H a = some (.frz od (.dT vfs)) ∧ FsOk K W H vfs fs
  | .dead => True
  | .tab x q => W.U a ∧ a = (He.cT K (x, none)).2 ∧ ∃ ps : Array Value, H a = some (.tbl ps) ∧ TriplesOk ps.toList ∧ ∀ (pos : Pos) (cv : Value), codeAmong pos ps.toList = some cv → ∃ c, cv = .ref c ∧ ¬ W.U c ∧ H c = some (LamX.CodeO c q)
  | .tabG x q l m made => W.U a ∧ (∀ y, x = some y → a = (He.cT K (y, none)).2) ∧ ∃ ps : Array Value, H a = some (.tbl ps) ∧ TriplesOk ps.toList ∧ (∀ (pos : Pos) (cv : Value), codeAmong pos ps.toList = some cv → ∃ c, cv = .ref c ∧ ¬ W.U c ∧ EntOk W H c q l m made pos) ∧
    (made ≠ none → ∀ pos : Pos, pos.line = l ∧ pos.col = m → ∃ cv, codeAmong pos ps.toList = some cv)
theorem tabG_mono {K : PySem.W.Frag} {W W' : Wd} {H H' : Hp} {a : Addr} {x : Option Str} {q : Str} {l m : Nat} {made : Option Nat} (hU : W.U a → W'.U a) (ha : ∀ o, H a = some o → H' a = some o) (hc : ∀ c p, ¬ W.U c → H c = some (.ext p) → ¬ W'.U c ∧ H' c = some (.ext p)) (hm : ∀ (j : Nat) (P : Addr), W.mu[j]? = some P → W'.mu[j]? = some P)
    (c : CellOk K W H a (.tabG x q l m made)) : CellOk K W' H' a (.tabG x q l m made) := by
  obtain ⟨u, e, ps, h1, h2, h3, h4⟩ := c
  refine ⟨hU u, e, ps, ha _ h1, h2, fun pos cv q1 => ?_, h4⟩
  obtain ⟨c, q2, q3, q4⟩ := h3 pos cv q1
  rcases q4 with ⟨n, P', q5⟩ | ⟨n, j, P', e1, e2, q5⟩
  · exact ⟨c, q2, (hc c _ q3 q5).1, .inl ⟨n, P', (hc c _ q3 q5).2⟩⟩
  · exact ⟨c, q2, (hc c _ q3 q5).1, .inr ⟨n, j, P', e1, hm _ _ e2, (hc c _ q3 q5).2⟩⟩
structure Holds (K : PySem.W.Frag) (W : Wd) (H : Hp) (st : Store) : Prop where
  len : W.mu.length = st.length
  nd : W.mu.Nodup
  dom : ∀ a, W.U a → ∃ o, H a = some o
  muAt : ∀ a ∈ W.mu, ∃ o, H a = some o
  cell : ∀ (i : Nat) (c : Cell) (a : Addr), st[i]? = some c → W.mu[i]? = some a → CellOk K W H a c
theorem Holds.fresh {st : Store} (h : Holds K W H st) {a : Addr} (q : H a = none) : ¬ W.U a := fun z => by
  obtain ⟨o, e⟩ := h.dom a z
  rw [q] at e; cases e
theorem Holds.muDom {st : Store} (h : Holds K W H st) (a : Addr) (q : H a = none) : a ∉ W.mu := fun z => by
  obtain ⟨o, e⟩ := h.muAt a z
  rw [q] at e; cases e
/-- an error as it lies -/
def ExIs (K : PySem.W.Frag) (W : Wd) (H : Hp) (x : Ex) (C : Value) (d : Option Addr) : Prop :=
  C = .ref (He.ga K x.cls) ∧ ((x.fs = [] ∧ d = none) ∨ x.fs ≠ [] ∧ ∃ a vfs, d = some a ∧ ¬ W.U a ∧ H a = some (.xd vfs) ∧ FsOk K W H vfs x.fs)

def After {α : Type} (K : PySem.W.Frag) (W : Wd) (H : Hp) (E : XK) (r : R α) (k : α → Wd → Hp → Store → Prop) : Prop := match r with
  | .ok a st' => ∀ W' H', Ext W W' H H' → Holds K W' H' st' → k a W' H' st'
  | .exc x st' => ∀ W' H' C d, Ext W W' H H' → Holds K W' H' st' → ExIs K W' H' x C d → E C d H'
  | .stuck => False
section
variable {α β : Type} {E E' : XK} {st : Store} {r : R α} {k k' : α → Wd → Hp → Store → Prop}
theorem After.mono (h : After K W H E r k) (f : ∀ a W' H' st', r = .ok a st' → Ext W W' H H' → Holds K W' H' st' → k a W' H' st' → k' a W' H' st') : After K W H E r k' := by
  cases r with
  | ok a s => exact fun W' H' e hh => f a W' H' s rfl e hh (h W' H' e hh)
  | exc x s => exact h
  | stuck => exact h
theorem After.bind {m : M α} {f : α → M β} {k : β → Wd → Hp → Store → Prop} (h : After K W H E ((m >>= f) st) k) : After K W H E (m st) fun x W' H' st' => After K W' H' E (f x st') k := by
  have h' : After K W H E (match m st with | .ok a s' => f a s' | .exc e s' => .exc e s' | .stuck => .stuck) k := h
  cases q : m st with
  | ok x s =>
    rw [q] at h'
    intro W1 H1 e1 h1
    show After K W1 H1 E (f x s) k
    cases q2 : f x s with
    | ok y s2 =>
      have h'' : After K W H E (f x s) k := h'
      rw [q2] at h''
      exact fun W2 H2 e2 h2 => h'' W2 H2 (e1.trans e2) h2
    | exc y s2 =>
      have h'' : After K W H E (f x s) k := h'
      rw [q2] at h''
      exact fun W2 H2 C d e2 h2 => h'' W2 H2 C d (e1.trans e2) h2
    | stuck =>
      have h'' : After K W H E (f x s) k := h'
      rw [q2] at h''
      exact h''
  | exc x s =>
    rw [q] at h'
    exact fun W' H' C d e1 => h' W' H' C d e1
  | stuck =>
    rw [q] at h'
    exact h'
theorem After.shift {r : R α} {k : α → Wd → Hp → Store → Prop} (h : After K W H E r k) (e : Ext W W' H H') : After K W' H' E r k := by
  cases r with
  | ok a s => exact fun W2 H2 e2 hh => h W2 H2 (e.trans e2) hh
  | exc x s => exact fun W2 H2 C d e2 hh => h W2 H2 C d (e.trans e2) hh
  | stuck => exact h
theorem After.pure' {a : α} {k : α → Wd → Hp → Store → Prop} (h : After K W H E ((pure a : M α) st) k) (hh : Holds K W H st) : k a W H st := h W H Ext.refl hh
end
end
end DL
/-! DL3: the slots, the judgements, the first rules. -/
namespace DL
open PySem PySem.Spec L2

/-- a slot as a datum: not known; a datum -/
inductive Sl where
  | none | val (d : D)

structure Slots (K : PySem.W.Frag) (W : Wd) (H : Hp) (σd : List Sl) (σ : St) : Prop where
  len : σ.length = σd.length
  val : ∀ (i : Nat) (d : D), σd[i]? = some (.val d) → ∃ v, σ[i]? = some (some v) ∧ Rep K W H v d
section
variable {K : PySem.W.Frag} {W W' : Wd} {H H' : Hp} {σd : List Sl} {σ : St} {st : Store}
/-- behind an expression -/
theorem Slots.ext (s : Slots K W H σd σ) (e : Ext W W' H H') : Slots K W' H' σd σ where
  len := s.len
  val := fun i d q => let ⟨v, h1, h2⟩ := s.val i d q; ⟨v, h1, h2.ext e⟩
/-- less is known -/
theorem Slots.weak {τd : List Sl} (s : Slots K W H σd σ) (hl : τd.length = σd.length) (h : ∀ (i : Nat) (x : Sl), τd[i]? = some x → x = .none ∨ σd[i]? = some x) : Slots K W H τd σ where
  len := s.len.trans hl.symm
  val := fun i d q => by
    rcases h i _ q with z | z
    · cases z
    · exact s.val i d z
end

/-! ### the judgements -/
abbrev Fin (K : PySem.W.Frag) (W : Wd) (H : Hp) (E : XK) (r : R D) (Q : VK) : Prop := After K W H E r fun d W' H' _ => ∀ v, Rep K W' H' v d → Q v H'
def tD (K : PySem.W.Frag) (σd : List Sl) (E : St → XK) (m : M D) : TE := fun σ H Q => ∃ (W : Wd) (st : Store), Holds K W H st ∧ Slots K W H σd σ ∧ Fin K W H (E σ) (m st) Q
def tDT (K : PySem.W.Frag) (σd : List Sl) (E : St → XK) (m : M Bool) : TT := fun σ H Q => ∃ (W : Wd) (st : Store), Holds K W H st ∧ Slots K W H σd σ ∧ After K W H (E σ) (m st) fun b W' H' _ => Q b H'
def tDA (K : PySem.W.Frag) (σd : List Sl) (E : St → XK) (m : M (List D)) : TA := fun σ H Q => ∃ (W : Wd) (st : Store), Holds K W H st ∧ Slots K W H σd σ ∧ After K W H (E σ) (m st) fun ds W' H' _ => ∀ vs, Reps K W' H' vs ds → Q vs H'
structure DE (X : Cx) (E : St → XK) (σd : List Sl) (e : Expr) (m : M D) : Prop where
  pe : PE X e (tD X.K σd E m)
structure DT (X : Cx) (E : St → XK) (σd : List Sl) (e : Expr) (m : M Bool) : Prop where
  pt : PT X e (tDT X.K σd E m)
structure DA (X : Cx) (E : St → XK) (σd : List Sl) (es : List Expr) (m : M (List D)) : Prop where
  pa : PA X es (tDA X.K σd E m)
theorem pe_imp {X : Cx} {e : Expr} {t t' : TE} (h : PE X e t) (f : ∀ σ H Q, t' σ H Q → t σ H Q) : PE X e t' := ⟨fun pins s σ H Q I q => h.run pins s σ H Q I (f σ H Q q)⟩
theorem pt_imp {X : Cx} {e : Expr} {t t' : TT} (h : PT X e t) (f : ∀ σ H Q, t' σ H Q → t σ H Q) : PT X e t' := ⟨fun pins s σ H Q I q => h.run pins s σ H Q I (f σ H Q q)⟩
theorem pa_imp {X : Cx} {e : List Expr} {t t' : TA} (h : PA X e t) (f : ∀ σ H Q, t' σ H Q → t σ H Q) : PA X e t' := ⟨fun p pins s σ H Q I q => h.run p pins s σ H Q I (f σ H Q q)⟩

section
variable {K : PySem.W.Frag} {W W' : Wd} {H H' : Hp} {σd : List Sl} {σ : St} {st : Store} {E : XK} {Q : VK} {d : D} {v : V} {xs : List D} {vs : List V} {p : Addr}
/-- expressions in a row -/
theorem After.next {α β : Type} {m : M α} {f : α → M β} {k : β → Wd → Hp → Store → Prop} (hs : Slots K W H σd σ) (hh : Holds K W H st) (h : After K W H E ((m >>= f) st) k) :
    After K W H E (m st) fun x W' H' st' => Ext W W' H H' ∧ Holds K W' H' st' ∧ Slots K W' H' σd σ ∧ After K W' H' E (f x st') k :=
  After.mono (After.bind h) fun x W' H' st' _ e hh' q => ⟨e, hh', hs.ext e, q⟩
theorem Fin.ret (h : Fin K W H E (.ok d st) Q) (hh : Holds K W H st) (r : Rep K W H v d) : Q v H := h W H Ext.rfl' hh v r
theorem Ext.new1 {o : HO} (hp : H p = none) : Ext W W H (upd H p o) where
  mu := ⟨[], by simp, by simp⟩
  u0 := fun _ _ z _ _ => z
  new := fun _ z => .inl z
  keep := fun a o' _ q => by rw [upd_ne (ne_of_none q hp)]; exact q
  dom := fun a o' q => ⟨o', by rw [upd_ne (ne_of_none q hp)]; exact q⟩
theorem CellOk.ext {a : Addr} {c : Cell} (e : Ext W W' H H') (h : ∀ o, H a = some o → H' a = some o) (u : W.U a → W'.U a) (x : CellOk K W H a c) : CellOk K W' H' a c := by
  cases c with
  | lst xs => obtain ⟨u1, vs, h1, hz, h2⟩ := x; exact ⟨u u1, vs, h _ h1, hz, h2.ext e⟩
  | ins C fs => obtain ⟨u1, dx, vfs, h1, h2⟩ := x; exact ⟨u u1, dx, vfs, h _ h1, FsOk.ext e h2⟩
  | dic fs => obtain ⟨u1, vfs, h1, h2⟩ := x; exact ⟨u u1, vfs, h _ h1, FsOk.ext e h2⟩
  | lck fs => obtain ⟨nu, od, vfs, h1, h2⟩ := x; obtain ⟨n1, n2⟩ := e.at nu h1; exact ⟨n1, od, vfs, n2, FsOk.ext e h2⟩
  | dead => trivial
  | tab y q =>
    obtain ⟨u1, e1, ps, h1, h2, h3⟩ := x
    exact ⟨u u1, e1, ps, h _ h1, h2, fun pos cv hc => let ⟨c, q1, q2, q3⟩ := h3 pos cv hc; ⟨c, q1, (e.at q2 q3).1, (e.at q2 q3).2⟩⟩
  | tabG y q l m made =>
    refine tabG_mono u h (fun c p nu q => e.at nu q) (fun j P q => ?_) x
    obtain ⟨t, e1, _⟩ := e.mu
    rw [e1]
    exact (List.getElem?_append_left (List.getElem?_eq_some_iff.mp q).1).trans q
theorem Holds.new1 {o : HO} (hh : Holds K W H st) (hp : H p = none) : Holds K W (upd H p o) st where
  len := hh.len
  nd := hh.nd
  dom := fun a z => let ⟨o', q⟩ := hh.dom a z; ⟨o', by rw [upd_ne (ne_of_none q hp)]; exact q⟩
  muAt := fun a z => let ⟨o', q⟩ := hh.muAt a z; ⟨o', by rw [upd_ne (ne_of_none q hp)]; exact q⟩
  cell := fun i c a h1 h2 => (hh.cell i c a h1 h2).ext (Ext.new1 hp) (fun o' q => by rw [upd_ne (ne_of_none q hp)]; exact q) id
theorem Rep.newL (hh : Holds K W H st) (hp : H p = none) (r : Reps K W H vs xs) (hz : xs.length ≤ 16777216) : Rep K W (upd H p (.lst vs)) (.ref p) (.lst xs) := ⟨p, vs, rfl, hh.fresh hp, upd_same, hz, r.ext (Ext.new1 hp)⟩
theorem Rep.newT (hh : Holds K W H st) (hp : H p = none) (r : Reps K W H vs xs) (hz : xs.length ≤ 16777216) : Rep K W (upd H p (.tup vs)) (.ref p) (.tup xs) := ⟨p, vs, rfl, .inl ⟨hh.fresh hp, upd_same⟩, hz, r.ext (Ext.new1 hp)⟩
theorem Fin.newL (h : Fin K W H E (.ok (.lst xs) st) Q) (hh : Holds K W H st) (hp : H p = none) (r : Reps K W H vs xs) (hz : xs.length ≤ 16777216) : Q (.ref p) (upd H p (.lst vs)) := h W _ (Ext.new1 hp) (hh.new1 hp) _ (Rep.newL hh hp r hz)
theorem Fin.newT (h : Fin K W H E (.ok (.tup xs) st) Q) (hh : Holds K W H st) (hp : H p = none) (r : Reps K W H vs xs) (hz : xs.length ≤ 16777216) : Q (.ref p) (upd H p (.tup vs)) := h W _ (Ext.new1 hp) (hh.new1 hp) _ (Rep.newT hh hp r hz)
end

section
variable {X : Cx} {E : St → XK} {σd : List Sl} {a b c : Expr} {ma mb mc : M D} {pos : Pos}
/-! ### names, constants -/
theorem de_var {x : Str} {d : D} (i : Nat) (h : σd[i]? = some (.val d)) (hN : X.N[i]? = some x) (hv : Vis X.env.scope x) (hd : (x == ("__debug__" : Str)) = false) (hcd : (x == ("__classdict__" : Str)) = false) : DE X E σd (.Name x pos) (pure d) :=
  ⟨pe_imp (pe_var hN hv hd hcd) fun σ H Q ⟨W, st, hh, hs, h1⟩ => by
    obtain ⟨v, q1, q2⟩ := hs.val i d h
    exact ⟨v, q1, Fin.ret h1 hh q2⟩⟩
theorem de_const {e : Expr} {v : V} {d : D} (h : PE X e (tC v)) (r : ∀ W H, Rep X.K W H v d) : DE X E σd e (pure d) :=
  ⟨pe_imp h fun σ H Q ⟨W, st, hh, hs, h1⟩ => Fin.ret h1 hh (r W H)⟩
theorem de_int {i : Int} {j : Nat} : DE X E σd (.Constant (.int i) j pos) (pure (.int i)) := de_const pe_int fun _ _ => rfl
theorem de_bl {i : Bool} {j : Nat} : DE X E σd (.Constant (.bool i) j pos) (pure (.bl i)) := de_const pe_bl fun _ _ => rfl
theorem de_non {j : Nat} : DE X E σd (.Constant .none j pos) (pure .non) := de_const pe_non fun _ _ => rfl
theorem de_str {x : Str} {j : Nat} {cs : List Nat} (h : x = mkS cs) (ho : sOk cs = true) : DE X E σd (.Constant (.str x) j pos) (pure (.str cs)) := de_const pe_str fun _ _ => ⟨by rw [h], ho⟩
/-- a module's name -/
theorem de_fn {x : Str} (hg : Gl X x) (hm : X.mg x = some (.ref (He.ga X.K x))) (hd : (x == ("__debug__" : Str)) = false) : DE X E σd (.Name x pos) (pure (.fn x)) := de_const (pe_glob hg hm (v := .ref (He.ga X.K x)) rfl hd) fun _ _ => rfl
theorem de_gint {x : Str} {i : Int} (hg : Gl X x) (hm : ∃ t, X.mg x = some (.int i t)) (hd : (x == ("__debug__" : Str)) = false) : DE X E σd (.Name x pos) (pure (.int i)) := by
  obtain ⟨t, hm⟩ := hm
  exact de_const (pe_glob hg hm (v := .int i) ⟨t, rfl⟩ hd) fun _ _ => rfl
theorem de_gstr {x z : Str} {cs : List Nat} (hg : Gl X x) (hm : ∃ t, X.mg x = some (.str z t)) (hz : z = mkS cs) (ho : sOk cs = true) (hd : (x == ("__debug__" : Str)) = false) : DE X E σd (.Name x pos) (pure (.str cs)) := by
  obtain ⟨t, hm⟩ := hm
  exact de_const (pe_glob hg hm (v := .str z) ⟨t, rfl⟩ hd) fun _ _ => ⟨by rw [hz], ho⟩
/-- a module's name of data -/
theorem de_gdat {x : Str} {d : D} {v : V} {u : Value} (hg : Gl X x) (hm : X.mg x = some u) (r : RelV v u) (hd : (x == ("__debug__" : Str)) = false) (rd : ∀ W H, Rep X.K W H v d) : DE X E σd (.Name x pos) (pure d) := de_const (pe_glob hg hm r hd) rd

/-! ### reading one, two values -/
theorem tD_run {ma : M D} {β : Type} {f : D → M β} {σ : St} {H : Hp} {k : β → Wd → Hp → Store → Prop} {W : Wd} {st : Store} {Q : VK} {K : PySem.W.Frag} (hh : Holds K W H st) (hs : Slots K W H σd σ) (h : After K W H (E σ) ((ma >>= f) st) k)
    (g : ∀ d v W' H' st', Ext W W' H H' → Holds K W' H' st' → Slots K W' H' σd σ → Rep K W' H' v d → After K W' H' (E σ) (f d st') k → Q v H') : tD K σd E ma σ H Q :=
  ⟨W, st, hh, hs, (After.next hs hh h).mono fun d W' H' st' _ _ _ ⟨e, h1, h2, h3⟩ v r => g d v W' H' st' e h1 h2 r h3⟩
theorem tDT_run {ma : M Bool} {β : Type} {f : Bool → M β} {σ : St} {H : Hp} {k : β → Wd → Hp → Store → Prop} {W : Wd} {st : Store} {Q : Bool → Hp → Prop} {K : PySem.W.Frag} (hh : Holds K W H st) (hs : Slots K W H σd σ) (h : After K W H (E σ) ((ma >>= f) st) k)
    (g : ∀ d W' H' st', Ext W W' H H' → Holds K W' H' st' → Slots K W' H' σd σ → After K W' H' (E σ) (f d st') k → Q d H') : tDT K σd E ma σ H Q :=
  ⟨W, st, hh, hs, (After.next hs hh h).mono fun d W' H' st' _ _ _ ⟨e, h1, h2, h3⟩ => g d W' H' st' e h1 h2 h3⟩

/-- an operation on two values -/
def RD (K : PySem.W.Frag) (r : R2) (f : D → D → M D) : Prop := ∀ (W : Wd) (H : Hp) (st : Store) (x y : V) (dx dy : D) (Q : VK) (E : XK), Holds K W H st → Rep K W H x dx → Rep K W H y dy → Fin K W H E (f dx dy st) Q → r x y H Q
def RU (K : PySem.W.Frag) (r : V → Hp → VK → Prop) (f : D → M D) : Prop := ∀ (W : Wd) (H : Hp) (st : Store) (x : V) (dx : D) (Q : VK) (E : XK), Holds K W H st → Rep K W H x dx → Fin K W H E (f dx st) Q → r x H Q
theorem RD.or {K : PySem.W.Frag} {r r' : R2} {f : D → D → M D} (h : ∀ (W : Wd) (H : Hp) (st : Store) (x y : V) (dx dy : D) (Q : VK) (E : XK), Holds K W H st → Rep K W H x dx → Rep K W H y dy → Fin K W H E (f dx dy st) Q → r x y H Q ∨ r' x y H Q) :
    RD K (fun x y H Q => r x y H Q ∨ r' x y H Q) f := h
theorem de_op2 {op : Operator} {r : R2} {f : D → D → M D} (ho : OpR X (binaryOp op) r) (hf : RD X.K r f) (ha : DE X E σd a ma) (hb : DE X E σd b mb) : DE X E σd (.BinOp a op b pos) (ma >>= fun x => mb >>= fun y => f x y) :=
  ⟨pe_imp (pe_op ho ha.pe hb.pe) fun σ H Q ⟨W, st, hh, hs, h⟩ =>
    tD_run hh hs h fun d v W1 H1 st1 e1 hh1 hs1 r1 h1 => tD_run hh1 hs1 h1 fun d2 v2 W2 H2 st2 e2 hh2 hs2 r2 h2 => hf W2 H2 st2 v v2 d d2 Q (E σ) hh2 (r1.ext e2) r2 h2⟩
theorem de_un {op : UnaryOp} {r : V → Hp → VK → Prop} {f : D → M D} (ho : UnR X (unaryOp op) r) (hf : RU X.K r f) (ha : DE X E σd a ma) : DE X E σd (.UnaryOp op a pos) (ma >>= f) :=
  ⟨pe_imp (pe_un ho ha.pe) fun σ H Q ⟨W, st, hh, hs, h⟩ => tD_run hh hs h fun d v W1 H1 st1 e1 hh1 hs1 r1 h1 => hf W1 H1 st1 v d Q (E σ) hh1 r1 h1⟩
theorem de_cmp {op : CmpOp} {r : R2} {f : D → D → M D} (ho : OpR X (compareOp op) r) (hf : RD X.K r f) (ha : DE X E σd a ma) (hb : DE X E σd b mb) (hm : behindInMarks op b = false) : DE X E σd (.Compare a [op] [b] pos) (ma >>= fun x => mb >>= fun y => f x y) :=
  ⟨pe_imp (pe_cmpR ho ha.pe hb.pe hm) fun σ H Q ⟨W, st, hh, hs, h⟩ =>
    tD_run hh hs h fun d v W1 H1 st1 e1 hh1 hs1 r1 h1 => tD_run hh1 hs1 h1 fun d2 v2 W2 H2 st2 e2 hh2 hs2 r2 h2 => hf W2 H2 st2 v v2 d d2 Q (E σ) hh2 (r1.ext e2) r2 h2⟩
/-- a truth as a value, a value as a truth -/
def asB : D → M Bool
  | .bl b => pure b
  | _ => M.stuck
theorem asB_run {K : PySem.W.Frag} {W : Wd} {H : Hp} {st : Store} {d : D} {v : V} {β : Type} {f : Bool → M β} {k : β → Wd → Hp → Store → Prop} {E : XK} (r : Rep K W H v d) (h : After K W H E ((asB d >>= f) st) k) : ∃ b, v = .bl b ∧ After K W H E (f b st) k := by
  cases d with
  | bl b => exact ⟨b, r, h⟩
  | _ => exact h.elim
theorem asB_end {K : PySem.W.Frag} {W : Wd} {H : Hp} {st : Store} {d : D} {v : V} {Q : Bool → Hp → Prop} {E : XK} (hh : Holds K W H st) (r : Rep K W H v d) (h : After K W H E (asB d st) fun b W' H' _ => Q b H') : ∃ b, v = .bl b ∧ Q b H := by
  cases d with
  | bl b => exact ⟨b, r, h W H Ext.rfl' hh⟩
  | _ => exact h.elim
/-- a test whose value is a bool -/
theorem dt_val (ha : DE X E σd a ma) (he : ∀ whole, isTrue a X.env whole = (do let v ← whole; standAt a.pos; holding [v] (truthy v))) : DT X E σd a (ma >>= asB) :=
  ⟨pt_imp (pt_val ha.pe he) fun σ H Q ⟨W, st, hh, hs, h⟩ => tD_run hh hs h fun d v W1 H1 st1 e1 hh1 hs1 r1 h1 => asB_end hh1 r1 h1⟩
theorem dt_cmp {op : CmpOp} {r : R2} {f : D → D → M D} (ho : OpR X (compareOp op) r) (hf : RD X.K r f) (ha : DE X E σd a ma) (hb : DE X E σd b mb) (hm : behindInMarks op b = false) : DT X E σd (.Compare a [op] [b] pos) (ma >>= fun x => mb >>= fun y => f x y >>= asB) :=
  ⟨pt_imp (pt_cmpR ho ha.pe hb.pe hm) fun σ H Q ⟨W, st, hh, hs, h⟩ =>
    tD_run hh hs h fun d v W1 H1 st1 e1 hh1 hs1 r1 h1 => tD_run hh1 hs1 h1 fun d2 v2 W2 H2 st2 e2 hh2 hs2 r2 h2 => hf W2 H2 st2 v v2 d d2 _ (E σ) hh2 (r1.ext e2) r2
      ((After.next hs2 hh2 h2).mono fun d3 W3 H3 st3 _ _ _ ⟨e3, hh3, hs3, h3⟩ v3 r3 => asB_end hh3 r3 h3)⟩
/-- and, or, not as tests -/
theorem dt_not {ma : M Bool} (ha : DT X E σd a ma) : DT X E σd (.UnaryOp .Not a pos) (ma >>= fun b => pure (!b)) :=
  ⟨pt_imp (pt_not ha.pt) fun σ H Q ⟨W, st, hh, hs, h⟩ => tDT_run hh hs h fun d W1 H1 st1 e1 hh1 hs1 h1 => h1 W1 H1 Ext.rfl' hh1⟩
structure DW (X : Cx) (E : St → XK) (σd : List Sl) (e : Expr) (m : M Bool) : Prop where
  pw : PW X e (tDT X.K σd E m)
theorem DW.dt {e : Expr} {m : M Bool} (h : DW X E σd e m) : DT X E σd e m := ⟨h.pw.pt⟩
theorem pw_imp {e : Expr} {t t' : TT} (h : PW X e t) (f : ∀ σ H Q, t' σ H Q → t σ H Q) : PW X e t' := ⟨fun w pins s σ H Q I q => h.run w pins s σ H Q I (f σ H Q q)⟩
def bAnd (ma mb : M Bool) : M Bool := ma >>= fun b => if b = true then mb else pure false
def bOr (ma mb : M Bool) : M Bool := ma >>= fun b => if b = true then pure true else mb
theorem dw_and1 {ma : M Bool} (ha : DT X E σd a ma) : DW X E σd (.BoolOp .And [a] pos) ma := ⟨pw_and1 ha.pt⟩
theorem dw_or1 {ma : M Bool} (ha : DT X E σd a ma) : DW X E σd (.BoolOp .Or [a] pos) ma := ⟨pw_or1 ha.pt⟩
theorem dw_and {ma mb : M Bool} {rest : List Expr} (ha : DT X E σd a ma) (hb : DW X E σd (.BoolOp .And (b :: rest) pos) mb) : DW X E σd (.BoolOp .And (a :: b :: rest) pos) (bAnd ma mb) :=
  ⟨pw_imp (pw_and ha.pt hb.pw) fun σ H Q ⟨W, st, hh, hs, h⟩ => tDT_run hh hs h fun d W1 H1 st1 e1 hh1 hs1 h1 => by
    cases d with
    | true => exact ⟨W1, st1, hh1, hs1, h1⟩
    | false => exact h1 W1 H1 Ext.rfl' hh1⟩
theorem dw_or {ma mb : M Bool} {rest : List Expr} (ha : DT X E σd a ma) (hb : DW X E σd (.BoolOp .Or (b :: rest) pos) mb) : DW X E σd (.BoolOp .Or (a :: b :: rest) pos) (bOr ma mb) :=
  ⟨pw_imp (pw_or ha.pt hb.pw) fun σ H Q ⟨W, st, hh, hs, h⟩ => tDT_run hh hs h fun d W1 H1 st1 e1 hh1 hs1 h1 => by
    cases d with
    | true => exact h1 W1 H1 Ext.rfl' hh1
    | false => exact ⟨W1, st1, hh1, hs1, h1⟩⟩
/-- .. as values -/
def vAnd (ma mb : M D) : M D := ma >>= asB >>= fun b => if b = true then mb else pure (.bl false)
def vOr (ma mb : M D) : M D := ma >>= asB >>= fun b => if b = true then pure (.bl true) else mb
theorem de_one {op : BoolOp} (ha : DE X E σd a ma) : DE X E σd (.BoolOp op [a] pos) ma := ⟨pe_one ha.pe⟩
theorem de_and {rest : List Expr} (ha : DE X E σd a ma) (hb : DE X E σd (.BoolOp .And (b :: rest) pos) mb) : DE X E σd (.BoolOp .And (a :: b :: rest) pos) (vAnd ma mb) :=
  ⟨pe_imp (pe_and ha.pe hb.pe) fun σ H Q ⟨W, st, hh, hs, h⟩ => by
    have h' : Fin X.K W H (E σ) ((ma >>= fun x => asB x >>= fun b => if b = true then mb else pure (.bl false)) st) Q := by
      rw [← M.bind_assoc]; exact h
    refine tD_run hh hs h' fun d v W1 H1 st1 e1 hh1 hs1 r1 h1 => ?_
    obtain ⟨b, e, h2⟩ := asB_run r1 h1
    refine ⟨b, e, ?_⟩
    cases b with
    | true => exact ⟨W1, st1, hh1, hs1, h2⟩
    | false => exact Fin.ret h2 hh1 rfl⟩
theorem de_or {rest : List Expr} (ha : DE X E σd a ma) (hb : DE X E σd (.BoolOp .Or (b :: rest) pos) mb) : DE X E σd (.BoolOp .Or (a :: b :: rest) pos) (vOr ma mb) :=
  ⟨pe_imp (pe_or ha.pe hb.pe) fun σ H Q ⟨W, st, hh, hs, h⟩ => by
    have h' : Fin X.K W H (E σ) ((ma >>= fun x => asB x >>= fun b => if b = true then pure (.bl true) else mb) st) Q := by
      rw [← M.bind_assoc]; exact h
    refine tD_run hh hs h' fun d v W1 H1 st1 e1 hh1 hs1 r1 h1 => ?_
    obtain ⟨b, e, h2⟩ := asB_run r1 h1
    refine ⟨b, e, ?_⟩
    cases b with
    | true => exact Fin.ret h2 hh1 rfl
    | false => exact ⟨W1, st1, hh1, hs1, h2⟩⟩
theorem de_not (ha : DE X E σd a ma) : DE X E σd (.UnaryOp .Not a pos) (ma >>= asB >>= fun b => pure (.bl (!b))) :=
  ⟨pe_imp (pe_not ha.pe) fun σ H Q ⟨W, st, hh, hs, h⟩ => by
    have h' : Fin X.K W H (E σ) ((ma >>= fun x => asB x >>= fun b => pure (.bl (!b))) st) Q := by
      rw [← M.bind_assoc]; exact h
    refine tD_run hh hs h' fun d v W1 H1 st1 e1 hh1 hs1 r1 h1 => ?_
    obtain ⟨b, e, h2⟩ := asB_run r1 h1
    exact ⟨b, e, Fin.ret h2 hh1 rfl⟩⟩
theorem de_ifExp {mt : M Bool} (ht : DT X E σd c mt) (ha : DE X E σd a ma) (hb : DE X E σd b mb) : DE X E σd (.IfExp c a b pos) (mt >>= fun t => if t = true then ma else mb) :=
  ⟨pe_imp (pe_ifExp ht.pt ha.pe hb.pe) fun σ H Q ⟨W, st, hh, hs, h⟩ => tDT_run hh hs h fun d W1 H1 st1 e1 hh1 hs1 h1 => by
    cases d with
    | true => exact ⟨W1, st1, hh1, hs1, h1⟩
    | false => exact ⟨W1, st1, hh1, hs1, h1⟩⟩
/-! ### arguments, displays -/
theorem da_nil : DA X E σd [] (pure []) := ⟨pa_imp pa_nil fun σ H Q ⟨W, st, hh, hs, h⟩ => h W H Ext.rfl' hh [] rfl⟩
theorem da_cons {es : List Expr} {mr : M (List D)} (ha : DE X E σd a ma) (hr : DA X E σd es mr) (hs : starEach (a :: es) X.env = (false, eval a X.env) :: starEach es X.env) : DA X E σd (a :: es) (ma >>= fun x => mr >>= fun xs => pure (x :: xs)) :=
  ⟨pa_imp (pa_cons ha.pe hr.pa hs) fun σ H Q ⟨W, st, hh, hs, h⟩ => tD_run hh hs h fun d v W1 H1 st1 e1 hh1 hs1 r1 h1 =>
    ⟨W1, st1, hh1, hs1, (After.next hs1 hh1 h1).mono fun ds W2 H2 st2 _ _ _ ⟨e2, hh2, hs2, h2⟩ vs r2 => h2 W2 H2 Ext.rfl' hh2 _ (.cons (r1.ext e2) r2)⟩⟩
def mkTup (ds : List D) : M D := if ds.length ≤ 16777216 then pure (.tup ds) else M.stuck
def mkLst (ds : List D) : M D := if ds.length ≤ 16777216 then pure (.lst ds) else M.stuck
theorem de_tup {es : List Expr} {m : M (List D)} {k : Nat} (h : DA X E σd es m) : DE X E σd (.Tuple es k pos) (m >>= mkTup) :=
  ⟨pe_imp (pe_tup h.pa) fun σ H Q ⟨W, st, hh, hs, h⟩ => ⟨W, st, hh, hs, (After.next hs hh h).mono fun ds W1 H1 st1 _ _ _ ⟨e1, hh1, hs1, h1⟩ vs r1 => by
    by_cases hz : ds.length ≤ 16777216
    · have h1' : Fin X.K W1 H1 (E σ) (mkTup ds st1) Q := h1
      unfold mkTup at h1'
      rw [if_pos hz] at h1'
      exact ⟨by rw [r1.length, sizeLine_eq]; exact hz, fun p hp => Fin.newT h1' hh1 hp r1 hz⟩
    · have h1' : Fin X.K W1 H1 (E σ) (mkTup ds st1) Q := h1
      unfold mkTup at h1'
      rw [if_neg hz] at h1'
      exact h1'.elim⟩⟩
theorem de_lst {es : List Expr} {m : M (List D)} (h : DA X E σd es m) : DE X E σd (.List es pos) (m >>= mkLst) :=
  ⟨pe_imp (pe_lst h.pa) fun σ H Q ⟨W, st, hh, hs, h⟩ => ⟨W, st, hh, hs, (After.next hs hh h).mono fun ds W1 H1 st1 _ _ _ ⟨e1, hh1, hs1, h1⟩ vs r1 => by
    have h1' : Fin X.K W1 H1 (E σ) (mkLst ds st1) Q := h1
    unfold mkLst at h1'
    by_cases hz : ds.length ≤ 16777216
    · rw [if_pos hz] at h1'
      exact ⟨by rw [r1.length, sizeLine_eq]; exact hz, fun p hp => Fin.newL h1' hh1 hp r1 hz⟩
    · rw [if_neg hz] at h1'
      exact h1'.elim⟩⟩
end
end DL
/-! DL4: operations on data. -/
namespace DL
open PySem PySem.Spec L2

theorem szLine {n : Nat} (h : n ≤ 16777216) : n ≤ sizeLine := by rw [sizeLine_eq]; exact h
theorem mkS_app (a b : List Nat) : mkS a ++ mkS b = mkS (a ++ b) := by
  show (⟨a.toArray ++ b.toArray⟩ : Str) = ⟨(a ++ b).toArray⟩
  simp
theorem sOk_app {a b : List Nat} (ha : sOk a = true) (hb : sOk b = true) (h : a.length + b.length ≤ 16777216) : sOk (a ++ b) = true := by
  rw [sOk_iff] at ha hb ⊢
  refine ⟨by rw [List.length_append]; exact h, fun c hc => ?_⟩
  rcases List.mem_append.mp hc with q | q
  · exact ha.2 c q
  · exact hb.2 c q
theorem sOk_sub {a b : List Nat} (hb : sOk b = true) (hl : a.length ≤ b.length) (h : ∀ c ∈ a, c ∈ b) : sOk a = true := by
  rw [sOk_iff] at hb ⊢
  exact ⟨Nat.le_trans hl hb.1, fun c hc => hb.2 c (h c hc)⟩

/-! ### sums, products -/
def dAdd : D → D → M D
  | .int i, .int j => pure (.int (i + j))
  | .str a, .str b => if a.length + b.length ≤ 16777216 then pure (.str (a ++ b)) else M.stuck
  | .lst a, .lst b => if a.length + b.length ≤ 16777216 then pure (.lst (a ++ b)) else M.stuck
  | .tup a, .tup b => if a.length + b.length ≤ 16777216 then pure (.tup (a ++ b)) else M.stuck
  | _, _ => M.stuck
def dSub : D → D → M D
  | .int i, .int j => pure (.int (i - j))
  | _, _ => M.stuck
/-- a product that the model takes -/
def mulOk (i j : Int) : Prop := ((-(2 ^ 64) < i ∧ i < 2 ^ 64) ∨ (-(2 ^ 64) < j ∧ j < 2 ^ 64)) ∨ i.natAbs.log2 + j.natAbs.log2 < 1000000
instance (i j : Int) : Decidable (mulOk i j) := by unfold mulOk; infer_instance
def repL {α : Type} (xs : List α) (k : Int) : List α := (List.replicate k.toNat xs).flatten
def dMul : D → D → M D
  | .int i, .int j => if mulOk i j then pure (.int (i * j)) else M.stuck
  | .lst a, .int k => if a.length * k.toNat ≤ 16777216 ∧ -(2 ^ 63) ≤ k ∧ k < 2 ^ 63 then pure (.lst (repL a k)) else M.stuck
  | .tup a, .int k => if a ≠ [] ∧ 2 ≤ k ∧ k ≤ 1000 ∧ a.length ≤ 1000 then pure (.tup (repL a k)) else if k = 1 ∨ a = [] then M.stuck else M.stuck
  | .str a, .int k => if 2 ≤ k ∧ k ≤ 1000 ∧ 1 ≤ a.length ∧ a.length ≤ 1000 then pure (.str (repL a k)) else if k = 1 ∧ a.length ≤ 1000 then pure (.str a) else M.stuck
  | _, _ => M.stuck
def divOk (j : Int) : Prop := (j ≠ 0 ∧ j.natAbs < 1073741824) ∨ (0 < j ∧ j.natAbs.log2 < 9000)
instance (j : Int) : Decidable (divOk j) := by unfold divOk; infer_instance
def dFdiv : D → D → M D
  | .int i, .int j => if divOk j then pure (.int (i.fdiv j)) else M.stuck
  | _, _ => M.stuck
def dMod : D → D → M D
  | .int i, .int j => if j ≠ 0 then pure (.int (i.fmod j)) else M.stuck
  | _, _ => M.stuck
def dPow : D → D → M D
  | .int i, .int j => if 0 ≤ j ∧ j ≤ 1000000 ∧ i.natAbs < 2 ^ 64 then pure (.int (i ^ j.toNat)) else M.stuck
  | _, _ => M.stuck
def dNeg : D → M D
  | .int i => pure (.int (-i))
  | _ => M.stuck
section
variable {K : PySem.W.Frag} {X : Cx}
def rAddA (K : PySem.W.Frag) : R2 := fun x y H Q => rI0 (fun i j => .int (i + j)) x y H Q ∨ (∃ i j, x = .str i ∧ y = .str j ∧ i.length + j.length ≤ sizeLine ∧ Q (.str (i ++ j)) H) ∨ rCat x y H Q ∨ rCatA K x y H Q
theorem op_addA : OpR X (binaryOp .Add) (rAddA X.K) := op_add.or (op_add_str.or (op_cat.or op_catA))
theorem rd_add : RD K (rAddA K) dAdd := by
  intro W H st x y dx dy Q E hh rx ry hq
  cases dx with
  | int i =>
    cases dy with
    | int j => exact .inl ⟨i, j, rx, ry, Fin.ret hq hh rfl⟩
    | _ => exact hq.elim
  | str a =>
    cases dy with
    | str b =>
      have hq' : Fin K W H E ((if a.length + b.length ≤ 16777216 then pure (.str (a ++ b)) else M.stuck : M D) st) Q := hq
      by_cases hz : a.length + b.length ≤ 16777216
      · rw [if_pos hz] at hq'
        exact .inr (.inl ⟨mkS a, mkS b, rx.1, ry.1, by rw [mkS_len, mkS_len]; exact szLine hz, by rw [mkS_app]; exact Fin.ret hq' hh ⟨rfl, sOk_app rx.2 ry.2 hz⟩⟩)
      · rw [if_neg hz] at hq'
        exact hq'.elim
    | _ => exact hq.elim
  | lst a =>
    cases dy with
    | lst b =>
      have hq' : Fin K W H E ((if a.length + b.length ≤ 16777216 then pure (.lst (a ++ b)) else M.stuck : M D) st) Q := hq
      by_cases hz : a.length + b.length ≤ 16777216
      · rw [if_pos hz] at hq'
        obtain ⟨p, vs, rfl, _, hp, _, r1⟩ := rx
        obtain ⟨q, ws, rfl, _, hw, _, r2⟩ := ry
        exact .inr (.inr (.inl ⟨p, q, vs, ws, rfl, rfl, hp, hw, by rw [r1.length, r2.length]; exact szLine hz, fun o ho => Fin.newL hq' hh ho (r1.append r2) (by rw [List.length_append]; exact hz)⟩))
      · rw [if_neg hz] at hq'
        exact hq'.elim
    | _ => exact hq.elim
  | tup a =>
    cases dy with
    | tup b =>
      have hq' : Fin K W H E ((if a.length + b.length ≤ 16777216 then pure (.tup (a ++ b)) else M.stuck : M D) st) Q := hq
      by_cases hz : a.length + b.length ≤ 16777216
      · rw [if_pos hz] at hq'
        have rx0 := rx
        have ry0 := ry
        obtain ⟨p, vs, rfl, hp, r1⟩ := Rep.tupSq rx
        obtain ⟨q, ws, rfl, hw, r2⟩ := Rep.tupSq ry
        refine .inr (.inr (.inr ⟨p, q, vs, ws, rfl, rfl, hp, hw, by rw [r1.length, r2.length]; exact szLine hz, fun e => ?_, fun _ e => ?_, fun _ _ o ho => Fin.newT hq' hh ho (r1.append r2) (by rw [List.length_append]; exact hz)⟩))
        · have ea : a = [] := List.eq_nil_of_length_eq_zero (by rw [← r1.length, e]; rfl)
          subst ea
          exact Fin.ret hq' hh ry0
        · have eb : b = [] := List.eq_nil_of_length_eq_zero (by rw [← r2.length, e]; rfl)
          subst eb
          rw [List.append_nil] at hq'
          exact Fin.ret hq' hh rx0
      · rw [if_neg hz] at hq'
        exact hq'.elim
    | _ => exact hq.elim
  | _ => exact hq.elim
theorem rd_sub : RD K (rI0 fun i j => .int (i - j)) dSub := by
  intro W H st x y dx dy Q E hh rx ry hq
  cases dx with
  | int i =>
    cases dy with
    | int j => exact ⟨i, j, rx, ry, Fin.ret hq hh rfl⟩
    | _ => exact hq.elim
  | _ => exact hq.elim
theorem rd_mod : RD K (rI (fun _ j => j ≠ 0) fun i j => .int (i.fmod j)) dMod := by
  intro W H st x y dx dy Q E hh rx ry hq
  cases dx with
  | int i =>
    cases dy with
    | int j =>
      have hq' : Fin K W H E ((if j ≠ 0 then pure (.int (i.fmod j)) else M.stuck : M D) st) Q := hq
      by_cases hz : j ≠ 0
      · rw [if_pos hz] at hq'
        exact ⟨i, j, rx, ry, hz, Fin.ret hq' hh rfl⟩
      · rw [if_neg hz] at hq'
        exact hq'.elim
    | _ => exact hq.elim
  | _ => exact hq.elim
theorem rd_pow : RD K (rI CPow fun i j => .int (i ^ j.toNat)) dPow := by
  intro W H st x y dx dy Q E hh rx ry hq
  cases dx with
  | int i =>
    cases dy with
    | int j =>
      have hq' : Fin K W H E ((if 0 ≤ j ∧ j ≤ 1000000 ∧ i.natAbs < 2 ^ 64 then pure (.int (i ^ j.toNat)) else M.stuck : M D) st) Q := hq
      by_cases hz : 0 ≤ j ∧ j ≤ 1000000 ∧ i.natAbs < 2 ^ 64
      · rw [if_pos hz] at hq'
        exact ⟨i, j, rx, ry, hz, Fin.ret hq' hh rfl⟩
      · rw [if_neg hz] at hq'
        exact hq'.elim
    | _ => exact hq.elim
  | _ => exact hq.elim
def rFdivA : R2 := fun x y H Q => rI CDivN (fun i j => .int (i.fdiv j)) x y H Q ∨ rI CDivW (fun i j => .int (i / j)) x y H Q
theorem op_fdivA : OpR X (binaryOp .FloorDiv) rFdivA := op_fdivN.or op_fdivW
theorem rd_fdiv : RD K rFdivA dFdiv := by
  intro W H st x y dx dy Q E hh rx ry hq
  cases dx with
  | int i =>
    cases dy with
    | int j =>
      have hq' : Fin K W H E ((if divOk j then pure (.int (i.fdiv j)) else M.stuck : M D) st) Q := hq
      by_cases hz : divOk j
      · rw [if_pos hz] at hq'
        rcases hz with hz | hz
        · exact .inl ⟨i, j, rx, ry, hz, Fin.ret hq' hh rfl⟩
        · refine .inr ⟨i, j, rx, ry, hz, ?_⟩
          show Q (.int (i / j)) H
          rw [← Int.fdiv_eq_ediv_of_nonneg i (Int.le_of_lt hz.1)]
          exact Fin.ret hq' hh rfl
      · rw [if_neg hz] at hq'
        exact hq'.elim
    | _ => exact hq.elim
  | _ => exact hq.elim
theorem ru_neg : RU K (rU fun i => .int (-i)) dNeg := by
  intro W H st x dx Q E hh rx hq
  cases dx with
  | int i => exact ⟨i, rx, Fin.ret hq hh rfl⟩
  | _ => exact hq.elim
/-- text times a number -/
theorem rep_str (a : List Nat) (k : Nat) : (List.replicate k a.toArray).foldl (· ++ ·) #[] = (List.replicate k a).flatten.toArray := by
  have h : ∀ (k : Nat) (b : List Nat), (List.replicate k a.toArray).foldl (· ++ ·) b.toArray = (b ++ (List.replicate k a).flatten).toArray := by
    intro k
    induction k with
    | zero => intro b; simp
    | succ k ih =>
      intro b
      rw [List.replicate_succ, List.foldl_cons, List.replicate_succ, List.flatten_cons]
      have e : b.toArray ++ a.toArray = (b ++ a).toArray := by simp
      rw [e, ih, List.append_assoc]
  have := h k []
  simpa using this
def rRepS : R2 := fun x y H Q => ∃ (a : List Nat) (k : Int), x = .str (mkS a) ∧ y = .int k ∧ ((2 ≤ k ∧ k ≤ 1000 ∧ 1 ≤ a.length ∧ a.length ≤ 1000 ∧ Q (.str (mkS (repL a k))) H) ∨ (k = 1 ∧ a.length ≤ 1000 ∧ Q (.str (mkS a)) H))
theorem op_repS : OpR X (binaryOp .Mult) rRepS := by
  intro pins s σ H x y v u Q I rx ry h
  obtain ⟨a, k, rfl, rfl, h⟩ := h
  obtain ⟨t, rfl⟩ := rx
  obtain ⟨t', rfl⟩ := ry
  have hlen : (mkS a).length = a.length := mkS_len a
  rcases h with ⟨h1, h2, h3, h4, q⟩ | ⟨h1, h2, q⟩
  · have c1 : ¬ k < 1 := by omega
    have c2 : (k == 1 || (mkS a).length == 0) = false := by
      rw [hlen, Bool.or_eq_false_iff]
      exact ⟨beq_eq_false_iff_ne.mpr (by omega), beq_eq_false_iff_ne.mpr (by omega)⟩
    refine PySem.P.mul_str (by rw [decide_eq_false (by omega), decide_eq_false (by omega)]; rfl) (fun _ _ => ?_) (fun _ _ => ?_) ?_
    · rw [hlen]
      have : (1000 : Int) ≤ (2 ^ 63 - 1) / k := by
        rw [Int.le_ediv_iff_mul_le (by omega)]
        omega
      omega
    · rw [hlen]
      unfold Builtin.Str.tooLong
      have : a.length * k.toNat ≤ 1000 * 1000 := Nat.mul_le_mul h4 (by omega)
      rw [sizeLine_eq]
      exact decide_eq_false (by omega)
    · rw [if_neg c1, if_neg (by rw [c2]; decide)]
      have e : (⟨List.foldl (fun x1 x2 => x1 ++ x2) #[] (List.replicate k.toNat (mkS a).cps)⟩ : Str) = mkS (repL a k) := by
        show (⟨List.foldl (fun x1 x2 => x1 ++ x2) #[] (List.replicate k.toNat a.toArray)⟩ : Str) = _
        rw [rep_str]
        rfl
      show (⟨List.foldl (fun x1 x2 => x1 ++ x2) #[] (List.replicate k.toNat (mkS a).cps)⟩ : Str).length ≤ sizeLine ∧ EP X pins σ Q (.str ⟨List.foldl (fun x1 x2 => x1 ++ x2) #[] (List.replicate k.toNat (mkS a).cps)⟩ s.toks) _
      rw [e, mkS_len]
      refine ⟨?_, .str (mkS (repL a k)), H, I.tok _, ⟨_, rfl⟩, q⟩
      unfold repL
      rw [PyProof.Rows.lm_len_rep_flat, sizeLine_eq]
      have : k.toNat * a.length ≤ 1000 * 1000 := Nat.mul_le_mul (by omega) h4
      omega
  · subst h1
    refine PySem.P.mul_str (by decide) (fun _ z => ?_) (fun _ z => ?_) ?_
    · simp at z
    · simp at z
    · rw [if_neg (by decide), if_pos (by simp)]
      exact ⟨.str (mkS a), H, I, ⟨_, rfl⟩, q⟩
theorem repL_len {α : Type} (a : List α) (k : Int) : (repL a k).length = k.toNat * a.length := by
  unfold repL
  rw [PyProof.Rows.lm_len_rep_flat]
theorem repL_mem {α : Type} {a : List α} {k : Int} {c : α} (h : c ∈ repL a k) : c ∈ a := by
  unfold repL at h
  obtain ⟨l, hl, hc⟩ := List.mem_flatten.mp h
  rw [(List.mem_replicate.mp hl).2] at hc
  exact hc
theorem Reps.rep {W : Wd} {H : Hp} {vs : List V} {ds : List D} (r : Reps K W H vs ds) (k : Nat) : Reps K W H (List.replicate k vs).flatten (List.replicate k ds).flatten := by
  induction k with
  | zero => exact Reps.nil
  | succ k ih =>
    rw [List.replicate_succ, List.flatten_cons, List.replicate_succ, List.flatten_cons]
    exact r.append ih
def rMulA (K : PySem.W.Frag) : R2 := fun x y H Q => rI CMul (fun i j => .int (i * j)) x y H Q ∨ rI CMulW (fun i j => .int (i * j)) x y H Q ∨ rRep x y H Q ∨ rRepT K x y H Q ∨ rRepS x y H Q
theorem op_mulA : OpR X (binaryOp .Mult) (rMulA X.K) := op_mul.or (op_mulW.or (op_rep.or (op_repT.or op_repS)))
theorem rd_mul : RD K (rMulA K) dMul := by
  intro W H st x y dx dy Q E hh rx ry hq
  cases dx with
  | int i =>
    cases dy with
    | int j =>
      have hq' : Fin K W H E ((if mulOk i j then pure (.int (i * j)) else M.stuck : M D) st) Q := hq
      by_cases hz : mulOk i j
      · rw [if_pos hz] at hq'
        rcases hz with hz | hz
        · exact .inl ⟨i, j, rx, ry, hz, Fin.ret hq' hh rfl⟩
        · exact .inr (.inl ⟨i, j, rx, ry, hz, Fin.ret hq' hh rfl⟩)
      · rw [if_neg hz] at hq'
        exact hq'.elim
    | _ => exact hq.elim
  | lst a =>
    cases dy with
    | int k =>
      have hq' : Fin K W H E ((if a.length * k.toNat ≤ 16777216 ∧ -(2 ^ 63) ≤ k ∧ k < 2 ^ 63 then pure (.lst (repL a k)) else M.stuck : M D) st) Q := hq
      by_cases hz : a.length * k.toNat ≤ 16777216 ∧ -(2 ^ 63) ≤ k ∧ k < 2 ^ 63
      · rw [if_pos hz] at hq'
        obtain ⟨p, vs, rfl, _, hp, _, r1⟩ := rx
        exact .inr (.inr (.inl ⟨p, k, vs, rfl, ry, hp, hz.2.1, hz.2.2, by rw [r1.length]; exact szLine hz.1, fun o ho => Fin.newL hq' hh ho (r1.rep _) (by rw [repL_len, Nat.mul_comm]; exact hz.1)⟩))
      · rw [if_neg hz] at hq'
        exact hq'.elim
    | _ => exact hq.elim
  | tup a =>
    cases dy with
    | int k =>
      have hq' : Fin K W H E ((if a ≠ [] ∧ 2 ≤ k ∧ k ≤ 1000 ∧ a.length ≤ 1000 then pure (.tup (repL a k)) else if k = 1 ∨ a = [] then M.stuck else M.stuck : M D) st) Q := hq
      by_cases hz : a ≠ [] ∧ 2 ≤ k ∧ k ≤ 1000 ∧ a.length ≤ 1000
      · rw [if_pos hz] at hq'
        obtain ⟨p, vs, rfl, hp, r1⟩ := Rep.tupSq rx
        refine .inr (.inr (.inr (.inl ⟨p, k, vs, rfl, ry, hp, fun e => hz.1 ?_, hz.2.1, hz.2.2.1, by rw [r1.length]; exact hz.2.2.2, fun o ho => Fin.newT hq' hh ho (r1.rep _) (by rw [repL_len]; have : k.toNat * a.length ≤ 1000 * 1000 := Nat.mul_le_mul (by omega) hz.2.2.2; omega)⟩)))
        exact List.eq_nil_of_length_eq_zero (by rw [← r1.length, e]; rfl)
      · rw [if_neg hz] at hq'
        have hq2 : Fin K W H E ((if k = 1 ∨ a = [] then M.stuck else M.stuck : M D) st) Q := hq'
        split at hq2 <;> exact hq2.elim
    | _ => exact hq.elim
  | str a =>
    cases dy with
    | int k =>
      have hq' : Fin K W H E ((if 2 ≤ k ∧ k ≤ 1000 ∧ 1 ≤ a.length ∧ a.length ≤ 1000 then pure (.str (repL a k)) else if k = 1 ∧ a.length ≤ 1000 then pure (.str a) else M.stuck : M D) st) Q := hq
      by_cases hz : 2 ≤ k ∧ k ≤ 1000 ∧ 1 ≤ a.length ∧ a.length ≤ 1000
      · rw [if_pos hz] at hq'
        refine .inr (.inr (.inr (.inr ⟨a, k, rx.1, ry, .inl ⟨hz.1, hz.2.1, hz.2.2.1, hz.2.2.2, Fin.ret hq' hh ⟨rfl, ?_⟩⟩⟩)))
        have h1 := sOk_iff.mp rx.2
        rw [sOk_iff]
        refine ⟨?_, fun c hc => h1.2 c (repL_mem hc)⟩
        rw [repL_len]
        have : k.toNat * a.length ≤ 1000 * 1000 := Nat.mul_le_mul (by omega) hz.2.2.2
        omega
      · rw [if_neg hz] at hq'
        have hq2 : Fin K W H E ((if k = 1 ∧ a.length ≤ 1000 then pure (.str a) else M.stuck : M D) st) Q := hq'
        by_cases h1 : k = 1 ∧ a.length ≤ 1000
        · rw [if_pos h1] at hq2
          exact .inr (.inr (.inr (.inr ⟨a, k, rx.1, ry, .inr ⟨h1.1, h1.2, Fin.ret hq2 hh ⟨rfl, rx.2⟩⟩⟩)))
        · rw [if_neg h1] at hq2
          exact hq2.elim
    | _ => exact hq.elim
  | _ => exact hq.elim
end

/-! ### data as the library has it -/
mutual
def toPy : D → PyData
  | .non => .none
  | .bl b => .bool b
  | .int i => .int i
  | .str cs => .str (mkS cs)
  | .lst xs => .list (toPys xs)
  | .tup xs => .tuple (toPys xs)
  | .scr _ => .none
  | .fn _ => .none
  | .adr _ => .none
  | .kt _ => .none
  | .ref _ => .none
def toPys : List D → List PyData
  | [] => []
  | d :: ds => toPy d :: toPys ds
end
mutual
/-- no object, no def within; not nested too deep -/
def okD : Nat → D → Bool
  | _, .non => true
  | _, .bl _ => true
  | _, .int _ => true
  | _, .str _ => true
  | _, .scr _ => false
  | _, .fn _ => false
  | _, .adr _ => false
  | _, .kt _ => false
  | _, .ref _ => false
  | 0, .lst _ => false
  | n + 1, .lst xs => okDs n xs
  | 0, .tup _ => false
  | n + 1, .tup xs => okDs n xs
def okDs : Nat → List D → Bool
  | _, [] => true
  | n, d :: ds => okD n d && okDs n ds
end
section
variable {K : PySem.W.Frag} {W : Wd} {H : Hp}
mutual
theorem okD_dp : ∀ (n : Nat) (d : D) (v : V), okD n d = true → Rep K W H v d → Dp K H v (toPy d) ∧ (toPy d).canLay0 = true ∧ (toPy d).depth ≤ n
  | _, .non, _, _, r => by
    have e : _ = V.non := r
    subst e
    exact ⟨by rw [toPy]; exact .non, by rw [toPy, PyData.canLay0], by rw [toPy, PyData.depth]; exact Nat.zero_le _⟩
  | _, .bl b, _, _, r => by
    have e : _ = V.bl b := r
    subst e
    exact ⟨by rw [toPy]; exact .bl b, by rw [toPy, PyData.canLay0], by rw [toPy, PyData.depth]; exact Nat.zero_le _⟩
  | _, .int i, _, _, r => by
    have e : _ = V.int i := r
    subst e
    exact ⟨by rw [toPy]; exact .int i, by rw [toPy, PyData.canLay0], by rw [toPy, PyData.depth]; exact Nat.zero_le _⟩
  | _, .str cs, _, _, r => by
    obtain ⟨e, ho⟩ : _ = V.str (mkS cs) ∧ sOk cs = true := r
    subst e
    refine ⟨by rw [toPy]; exact .str _, ?_, by rw [toPy, PyData.depth]; exact Nat.zero_le _⟩
    rw [toPy, PyData.canLay0]
    unfold PySem.PyData.strOk
    rw [sOk_iff] at ho
    rw [Array.all_eq_true_iff_forall_mem]
    intro c hc
    exact decide_eq_true (ho.2 c (by simpa using hc))
  | 0, .lst xs, _, h, _ => by rw [okD] at h; cases h
  | n + 1, .lst xs, _, h, r => by
    have h' : okDs n xs = true := by rw [okD] at h; exact h
    obtain ⟨a, vs, rfl, _, ha, _, r1⟩ := r
    obtain ⟨q1, q2, q3⟩ := okDs_dp n xs vs h' r1
    exact ⟨by rw [toPy]; exact .lst (SqL.of ha) q1, by rw [toPy, PyData.canLay0]; exact q2, by rw [toPy, PyData.depth]; omega⟩
  | 0, .tup xs, _, h, _ => by rw [okD] at h; cases h
  | n + 1, .tup xs, _, h, r => by
    have h' : okDs n xs = true := by rw [okD] at h; exact h
    obtain ⟨a, vs, rfl, ha, r1⟩ := Rep.tupSq r
    obtain ⟨q1, q2, q3⟩ := okDs_dp n xs vs h' r1
    exact ⟨by rw [toPy]; exact .tup ha q1, by rw [toPy, PyData.canLay0]; exact q2, by rw [toPy, PyData.depth]; omega⟩
  | _, .scr _, _, h, _ => by rw [okD] at h; cases h
  | _, .fn _, _, h, _ => by rw [okD] at h; cases h
  | _, .adr _, _, h, _ => by rw [okD] at h; cases h
  | _, .kt _, _, h, _ => by rw [okD] at h; cases h
  | _, .ref _, _, h, _ => by rw [okD] at h; cases h
theorem okDs_dp : ∀ (n : Nat) (ds : List D) (vs : List V), okDs n ds = true → Reps K W H vs ds → DpAll K H vs (toPys ds) ∧ PyData.canLayAll0 (toPys ds) = true ∧ PyData.depthAll (toPys ds) ≤ n
  | n, [], vs, _, r => by
    have e : vs = [] := r
    subst e
    exact ⟨by rw [toPys]; exact .nil, by rw [toPys, PyData.canLayAll0], by rw [toPys, PyData.depthAll]; exact Nat.zero_le _⟩
  | n, d :: ds, _, h, r => by
    obtain ⟨v, rr, rfl, r1, r2⟩ := r
    rw [okDs, Bool.and_eq_true] at h
    obtain ⟨a1, a2, a3⟩ := okD_dp n d v h.1 r1
    obtain ⟨b1, b2, b3⟩ := okDs_dp n ds rr h.2 r2
    exact ⟨by rw [toPys]; exact .cons a1 b1, by rw [toPys, PyData.canLayAll0, a2, b2]; rfl, by rw [toPys, PyData.depthAll]; omega⟩
end
theorem okD_shaped {d : D} {v : V} (h : okD 60 d = true) (r : Rep K W H v d) : SeqAt.shaped (toPy d) = true := by
  obtain ⟨_, h2, h3⟩ := okD_dp 60 d v h r
  unfold SeqAt.shaped
  rw [h2, decide_eq_true (by omega)]
  rfl
end
/-! ### == -/
mutual
def eqd : D → D → Bool
  | .non, .non => true
  | .bl a, .bl b => a == b
  | .bl a, .int j => (if a then 1 else 0) == j
  | .int i, .bl b => i == (if b then 1 else 0)
  | .int i, .int j => i == j
  | .str x, .str y => x == y
  | .lst xs, .lst ys => eqds xs ys
  | .tup xs, .tup ys => eqds xs ys
  | _, _ => false
def eqds : List D → List D → Bool
  | [], [] => true
  | d :: ds, e :: es => eqd d e && eqds ds es
  | _, _ => false
end
theorem mkS_beq (a b : List Nat) : (mkS a == mkS b) = (a == b) := by
  rw [Bool.eq_iff_iff, beq_iff_eq, beq_iff_eq]
  constructor
  · intro h
    have := congrArg (fun z : Str => z.cps.toList) h
    simpa using this
  · intro h; rw [h]
mutual
theorem eqd_py : ∀ (n : Nat) (x y : D), okD n x = true → okD n y = true → PyData.eqv (toPy x) (toPy y) = eqd x y
  | n, .non, y, _, hy => by cases y <;> first | rfl | (simp [toPy, PyData.eqv, eqd]; done) | (rw [okD] at hy; cases hy)
  | n, .bl a, y, _, hy => by cases y <;> first | rfl | (simp [toPy, PyData.eqv, eqd]; done) | (rw [okD] at hy; cases hy)
  | n, .int a, y, _, hy => by cases y <;> first | rfl | (simp [toPy, PyData.eqv, eqd]; done) | (rw [okD] at hy; cases hy)
  | n, .str a, y, _, hy => by
    cases y with
    | str b => simp only [toPy, PyData.eqv, eqd]; exact mkS_beq a b
    | _ => first | rfl | (simp [toPy, PyData.eqv, eqd]; done) | (rw [okD] at hy; cases hy)
  | 0, .lst xs, y, h, _ => by rw [okD] at h; cases h
  | n + 1, .lst xs, y, h, hy => by
    cases y with
    | lst ys =>
      simp only [toPy, PyData.eqv, eqd]
      exact eqds_py n xs ys (by rw [okD] at h; exact h) (by rw [okD] at hy; exact hy)
    | _ => first | rfl | (simp [toPy, PyData.eqv, eqd]; done) | (rw [okD] at hy; cases hy)
  | 0, .tup xs, y, h, _ => by rw [okD] at h; cases h
  | n + 1, .tup xs, y, h, hy => by
    cases y with
    | tup ys =>
      simp only [toPy, PyData.eqv, eqd]
      exact eqds_py n xs ys (by rw [okD] at h; exact h) (by rw [okD] at hy; exact hy)
    | _ => first | rfl | (simp [toPy, PyData.eqv, eqd]; done) | (rw [okD] at hy; cases hy)
  | _, .scr _, _, h, _ => by rw [okD] at h; cases h
  | _, .fn _, _, h, _ => by rw [okD] at h; cases h
  | _, .adr _, _, h, _ => by rw [okD] at h; cases h
  | _, .kt _, _, h, _ => by rw [okD] at h; cases h
  | _, .ref _, _, h, _ => by rw [okD] at h; cases h
theorem eqds_py : ∀ (n : Nat) (x y : List D), okDs n x = true → okDs n y = true → PyData.eqvAll (toPys x) (toPys y) = eqds x y
  | n, [], [], _, _ => by simp [toPys, PyData.eqvAll, eqds]
  | n, [], _ :: _, _, _ => by simp [toPys, PyData.eqvAll, eqds]
  | n, _ :: _, [], _, _ => by simp [toPys, PyData.eqvAll, eqds]
  | n, d :: ds, e :: es, h1, h2 => by
    rw [okDs, Bool.and_eq_true] at h1 h2
    rw [toPys, toPys, PyData.eqvAll, eqds, eqd_py n d e h1.1 h2.1, eqds_py n ds es h1.2 h2.2]
end
def dEq (x y : D) : M D := if okD 60 x = true ∧ okD 60 y = true then pure (.bl (eqd x y)) else M.stuck
def dNe (x y : D) : M D := if okD 60 x = true ∧ okD 60 y = true then pure (.bl (!eqd x y)) else M.stuck
def dLt : D → D → M D
  | .int i, .int j => pure (.bl (decide (i < j)))
  | _, _ => M.stuck
def dLe : D → D → M D
  | .int i, .int j => pure (.bl (decide (i ≤ j)))
  | _, _ => M.stuck
def dGt : D → D → M D
  | .int i, .int j => pure (.bl (decide (j < i)))
  | _, _ => M.stuck
def dGe : D → D → M D
  | .int i, .int j => pure (.bl (decide (j ≤ i)))
  | _, _ => M.stuck
def isN : D → Bool
  | .non => true
  | _ => false
def dIs : D → D → M D
  | x, .non => pure (.bl (isN x))
  | .bl a, .bl b => pure (.bl (decide (a = b)))
  | _, _ => M.stuck
def dIsNot : D → D → M D
  | x, .non => pure (.bl (!isN x))
  | .bl a, .bl b => pure (.bl (!decide (a = b)))
  | _, _ => M.stuck
def subL (a : List Nat) (z : List Nat) : Bool := match a with
  | [c] => decide (c ∈ z)
  | _ => false
def dIn : D → D → M D
  | x, .lst ys => if okD 60 x = true ∧ okD 60 (.lst ys) = true then pure (.bl (ys.any fun y => eqd y x)) else M.stuck
  | x, .tup ys => if okD 60 x = true ∧ okD 60 (.tup ys) = true then pure (.bl (ys.any fun y => eqd y x)) else M.stuck
  | .str [c], .str z => pure (.bl (decide (c ∈ z)))
  | _, _ => M.stuck
def dNotIn : D → D → M D
  | x, .lst ys => if okD 60 x = true ∧ okD 60 (.lst ys) = true then pure (.bl (!ys.any fun y => eqd y x)) else M.stuck
  | x, .tup ys => if okD 60 x = true ∧ okD 60 (.tup ys) = true then pure (.bl (!ys.any fun y => eqd y x)) else M.stuck
  | .str [c], .str z => pure (.bl (!decide (c ∈ z)))
  | _, _ => M.stuck
section
variable {K : PySem.W.Frag} {X : Cx}
theorem rd_eq : RD K (rEqD K) dEq := by
  intro W H st x y dx dy Q E hh rx ry hq
  unfold dEq at hq
  by_cases hz : okD 60 dx = true ∧ okD 60 dy = true
  · rw [if_pos hz] at hq
    refine ⟨toPy dx, toPy dy, (okD_dp 60 dx x hz.1 rx).1, (okD_dp 60 dy y hz.2 ry).1, okD_shaped hz.1 rx, okD_shaped hz.2 ry, ?_⟩
    rw [eqd_py 60 dx dy hz.1 hz.2]
    exact Fin.ret hq hh rfl
  · rw [if_neg hz] at hq
    exact hq.elim
theorem rd_ne : RD K (rNeD K) dNe := by
  intro W H st x y dx dy Q E hh rx ry hq
  unfold dNe at hq
  by_cases hz : okD 60 dx = true ∧ okD 60 dy = true
  · rw [if_pos hz] at hq
    refine ⟨toPy dx, toPy dy, (okD_dp 60 dx x hz.1 rx).1, (okD_dp 60 dy y hz.2 ry).1, okD_shaped hz.1 rx, okD_shaped hz.2 ry, ?_⟩
    rw [eqd_py 60 dx dy hz.1 hz.2]
    exact Fin.ret hq hh rfl
  · rw [if_neg hz] at hq
    exact hq.elim
theorem rd_II {g : Int → Int → Bool} {f : D → D → M D} (h : ∀ i j, f (.int i) (.int j) = pure (.bl (g i j))) (h2 : ∀ x y, (∃ i j, x = .int i ∧ y = .int j) ∨ f x y = M.stuck) : RD K (rI0 fun i j => .bl (g i j)) f := by
  intro W H st x y dx dy Q E hh rx ry hq
  rcases h2 dx dy with ⟨i, j, rfl, rfl⟩ | q
  · rw [h] at hq
    exact ⟨i, j, rx, ry, Fin.ret hq hh rfl⟩
  · rw [q] at hq
    exact hq.elim
theorem rd_lt : RD K (rI0 fun i j => .bl (decide (i < j))) dLt := rd_II (fun _ _ => rfl) fun x y => by cases x <;> cases y <;> first | exact .inl ⟨_, _, rfl, rfl⟩ | exact .inr rfl
theorem rd_le : RD K (rI0 fun i j => .bl (decide (i ≤ j))) dLe := rd_II (fun _ _ => rfl) fun x y => by cases x <;> cases y <;> first | exact .inl ⟨_, _, rfl, rfl⟩ | exact .inr rfl
theorem rd_gt : RD K (rI0 fun i j => .bl (decide (j < i))) dGt := rd_II (fun _ _ => rfl) fun x y => by cases x <;> cases y <;> first | exact .inl ⟨_, _, rfl, rfl⟩ | exact .inr rfl
theorem rd_ge : RD K (rI0 fun i j => .bl (decide (j ≤ i))) dGe := rd_II (fun _ _ => rfl) fun x y => by cases x <;> cases y <;> first | exact .inl ⟨_, _, rfl, rfl⟩ | exact .inr rfl
end
end DL
/-! DL5: in, is, items, slices, built-ins of one argument. -/
namespace DL
open PySem PySem.Spec L2

section
variable {K : PySem.W.Frag} {X : Cx}
/-! ### in, not in, is -/
def rInT (K : PySem.W.Frag) : R2 := fun x y H Q => ∃ d ds, Dp K H x d ∧ Dp K H y (.tuple ds) ∧ SeqAt.shaped d = true ∧ SeqAt.shaped (.tuple ds) = true ∧ Q (.bl (ds.any fun z => PyData.eqv z d)) H
def rNotInT (K : PySem.W.Frag) : R2 := fun x y H Q => ∃ d ds, Dp K H x d ∧ Dp K H y (.tuple ds) ∧ SeqAt.shaped d = true ∧ SeqAt.shaped (.tuple ds) = true ∧ Q (.bl (!ds.any fun z => PyData.eqv z d)) H
theorem op_inT (hu : X.A.units + 65 < cLine) : OpR X (compareOp .In) (rInT X.K) := by
  intro pins s σ H x y v u Q I rx ry h
  obtain ⟨d, ds, hd, he, sd, se, q⟩ := h
  obtain ⟨as, r1⟩ := Dp.reads I d x v hd rx
  obtain ⟨bs, r2⟩ := Dp.reads I (.tuple ds) y u he ry
  exact SeqAt.in_tuple_reads r2 r1 (SeqAt.canLay_of_shaped se) (SeqAt.canLay_of_shaped sd) (PyProof.Rows.room_in_shaped sd hu) ⟨.bl _, H, I, rfl, q⟩
theorem op_notInT (hu : X.A.units + 65 < cLine) : OpR X (compareOp .NotIn) (rNotInT X.K) := by
  intro pins s σ H x y v u Q I rx ry h
  obtain ⟨d, ds, hd, he, sd, se, q⟩ := h
  obtain ⟨as, r1⟩ := Dp.reads I d x v hd rx
  obtain ⟨bs, r2⟩ := Dp.reads I (.tuple ds) y u he ry
  exact SeqAt.notIn_tuple_reads r2 r1 (SeqAt.canLay_of_shaped se) (SeqAt.canLay_of_shaped sd) (PyProof.Rows.room_in_shaped sd hu) ⟨.bl _, H, I, rfl, q⟩
def rInS : R2 := fun x y H Q => ∃ (c : Nat) (z : Str), x = .str ⟨#[c]⟩ ∧ y = .str z ∧ Q (.bl (decide (c ∈ z.cps.toList))) H
def rNotInS : R2 := fun x y H Q => ∃ (c : Nat) (z : Str), x = .str ⟨#[c]⟩ ∧ y = .str z ∧ Q (.bl (!decide (c ∈ z.cps.toList))) H
def rInA (K : PySem.W.Frag) : R2 := fun x y H Q => rInD K x y H Q ∨ rInT K x y H Q ∨ rInS x y H Q
def rNotInA (K : PySem.W.Frag) : R2 := fun x y H Q => rNotInD K x y H Q ∨ rNotInT K x y H Q ∨ rNotInS x y H Q
theorem op_inA (hu : X.A.units + 65 < cLine) : OpR X (compareOp .In) (rInA X.K) := (op_inD hu).or ((op_inT hu).or op_in_sign)
theorem op_notInA (hu : X.A.units + 65 < cLine) : OpR X (compareOp .NotIn) (rNotInA X.K) := (op_notInD hu).or ((op_notInT hu).or op_notIn_sign)
theorem any_py {n : Nat} {d : D} (hd : okD n d = true) : ∀ {ds : List D}, okDs n ds = true → ((toPys ds).any fun z => PyData.eqv z (toPy d)) = ds.any fun y => eqd y d
  | [], _ => by simp [toPys]
  | e :: ds, h => by
    rw [okDs, Bool.and_eq_true] at h
    rw [toPys, List.any_cons, List.any_cons, eqd_py n e d h.1 hd, any_py hd h.2]
mutual
theorem okD_mono : ∀ (d : D) (n m : Nat), n ≤ m → okD n d = true → okD m d = true
  | .non, _, _, _, _ => by rw [okD]
  | .bl _, _, _, _, _ => by rw [okD]
  | .int _, _, _, _, _ => by rw [okD]
  | .str _, _, _, _, _ => by rw [okD]
  | .scr _, _, _, _, h => by rw [okD] at h; cases h
  | .fn _, _, _, _, h => by rw [okD] at h; cases h
  | .adr _, _, _, _, h => by rw [okD] at h; cases h
  | .kt _, _, _, _, h => by rw [okD] at h; cases h
  | .ref _, _, _, _, h => by rw [okD] at h; cases h
  | .lst _, 0, _, _, h => by rw [okD] at h; cases h
  | .lst _, _ + 1, 0, hm, _ => by omega
  | .lst xs, n + 1, m + 1, hm, h => by
    rw [okD] at h ⊢
    exact okDs_mono xs n m (by omega) h
  | .tup _, 0, _, _, h => by rw [okD] at h; cases h
  | .tup _, _ + 1, 0, hm, _ => by omega
  | .tup xs, n + 1, m + 1, hm, h => by
    rw [okD] at h ⊢
    exact okDs_mono xs n m (by omega) h
theorem okDs_mono : ∀ (ds : List D) (n m : Nat), n ≤ m → okDs n ds = true → okDs m ds = true
  | [], _, _, _, _ => by rw [okDs]
  | d :: ds, n, m, hm, h => by
    rw [okDs, Bool.and_eq_true] at h ⊢
    exact ⟨okD_mono d n m hm h.1, okDs_mono ds n m hm h.2⟩
end
theorem okDs_of_lst {n : Nat} {ys : List D} (h : okD n (.lst ys) = true) : okDs n ys = true := by
  cases n with
  | zero => rw [okD] at h; cases h
  | succ n =>
    have h' : okDs n ys = true := by rw [okD] at h; exact h
    have := okD_mono (.lst ys) (n + 1) (n + 2) (by omega) (by rw [okD]; exact h')
    rw [okD] at this
    exact this
theorem okDs_of_tup {n : Nat} {ys : List D} (h : okD n (.tup ys) = true) : okDs n ys = true := by
  cases n with
  | zero => rw [okD] at h; cases h
  | succ n =>
    have h' : okDs n ys = true := by rw [okD] at h; exact h
    have := okD_mono (.tup ys) (n + 1) (n + 2) (by omega) (by rw [okD]; exact h')
    rw [okD] at this
    exact this
theorem rd_in : RD K (rInA K) dIn := by
  intro W H st x y dx dy Q E hh rx ry hq
  cases dy with
  | lst ys =>
    have hq' : Fin K W H E ((if okD 60 dx = true ∧ okD 60 (.lst ys) = true then pure (.bl (ys.any fun y => eqd y dx)) else M.stuck : M D) st) Q := by
      cases dx <;> exact hq
    by_cases hz : okD 60 dx = true ∧ okD 60 (.lst ys) = true
    · rw [if_pos hz] at hq'
      have h1 := okD_dp 60 (.lst ys) y hz.2 ry
      have h2 := okD_shaped hz.2 ry
      rw [toPy] at h1 h2
      refine .inl ⟨toPy dx, toPys ys, (okD_dp 60 dx x hz.1 rx).1, h1.1, okD_shaped hz.1 rx, h2, ?_⟩
      rw [any_py hz.1 (okDs_of_lst hz.2)]
      exact Fin.ret hq' hh rfl
    · rw [if_neg hz] at hq'
      exact hq'.elim
  | tup ys =>
    have hq' : Fin K W H E ((if okD 60 dx = true ∧ okD 60 (.tup ys) = true then pure (.bl (ys.any fun y => eqd y dx)) else M.stuck : M D) st) Q := by
      cases dx <;> exact hq
    by_cases hz : okD 60 dx = true ∧ okD 60 (.tup ys) = true
    · rw [if_pos hz] at hq'
      have h1 := okD_dp 60 (.tup ys) y hz.2 ry
      have h2 := okD_shaped hz.2 ry
      rw [toPy] at h1 h2
      refine .inr (.inl ⟨toPy dx, toPys ys, (okD_dp 60 dx x hz.1 rx).1, h1.1, okD_shaped hz.1 rx, h2, ?_⟩)
      rw [any_py hz.1 (okDs_of_tup hz.2)]
      exact Fin.ret hq' hh rfl
    · rw [if_neg hz] at hq'
      exact hq'.elim
  | str z =>
    cases dx with
    | str a =>
      match a, rx, hq with
      | [], _, hq => exact hq.elim
      | [c], rx, hq => exact .inr (.inr ⟨c, mkS z, rx.1, ry.1, Fin.ret hq hh rfl⟩)
      | _ :: _ :: _, _, hq => exact hq.elim
    | _ => exact hq.elim
  | _ => cases dx <;> first | exact hq.elim | (rename_i a; cases a <;> exact hq.elim)
theorem rd_notIn : RD K (rNotInA K) dNotIn := by
  intro W H st x y dx dy Q E hh rx ry hq
  cases dy with
  | lst ys =>
    have hq' : Fin K W H E ((if okD 60 dx = true ∧ okD 60 (.lst ys) = true then pure (.bl (!ys.any fun y => eqd y dx)) else M.stuck : M D) st) Q := by
      cases dx <;> exact hq
    by_cases hz : okD 60 dx = true ∧ okD 60 (.lst ys) = true
    · rw [if_pos hz] at hq'
      have h1 := okD_dp 60 (.lst ys) y hz.2 ry
      have h2 := okD_shaped hz.2 ry
      rw [toPy] at h1 h2
      refine .inl ⟨toPy dx, toPys ys, (okD_dp 60 dx x hz.1 rx).1, h1.1, okD_shaped hz.1 rx, h2, ?_⟩
      rw [any_py hz.1 (okDs_of_lst hz.2)]
      exact Fin.ret hq' hh rfl
    · rw [if_neg hz] at hq'
      exact hq'.elim
  | tup ys =>
    have hq' : Fin K W H E ((if okD 60 dx = true ∧ okD 60 (.tup ys) = true then pure (.bl (!ys.any fun y => eqd y dx)) else M.stuck : M D) st) Q := by
      cases dx <;> exact hq
    by_cases hz : okD 60 dx = true ∧ okD 60 (.tup ys) = true
    · rw [if_pos hz] at hq'
      have h1 := okD_dp 60 (.tup ys) y hz.2 ry
      have h2 := okD_shaped hz.2 ry
      rw [toPy] at h1 h2
      refine .inr (.inl ⟨toPy dx, toPys ys, (okD_dp 60 dx x hz.1 rx).1, h1.1, okD_shaped hz.1 rx, h2, ?_⟩)
      rw [any_py hz.1 (okDs_of_tup hz.2)]
      exact Fin.ret hq' hh rfl
    · rw [if_neg hz] at hq'
      exact hq'.elim
  | str z =>
    cases dx with
    | str a =>
      match a, rx, hq with
      | [], _, hq => exact hq.elim
      | [c], rx, hq => exact .inr (.inr ⟨c, mkS z, rx.1, ry.1, Fin.ret hq hh rfl⟩)
      | _ :: _ :: _, _, hq => exact hq.elim
    | _ => exact hq.elim
  | _ => cases dx <;> first | exact hq.elim | (rename_i a; cases a <;> exact hq.elim)
theorem isN_of {W : Wd} {H : Hp} {d : D} {v : V} (r : Rep K W H v d) : decide (v = .non) = isN d := by
  cases d with
  | non => have e : v = .non := r; subst e; rfl
  | bl b => have e : v = .bl b := r; subst e; rfl
  | int b => have e : v = .int b := r; subst e; rfl
  | str b => obtain ⟨e, _⟩ : v = .str (mkS b) ∧ _ := r; subst e; rfl
  | lst xs => obtain ⟨a, _, e, _⟩ := r; subst e; rfl
  | tup xs => obtain ⟨a, _, e, _⟩ := r; subst e; rfl
  | scr xs => obtain ⟨a, e, _⟩ := r; subst e; rfl
  | fn x => have e : v = .ref (He.ga K x) := r; subst e; rfl
  | ref x => obtain ⟨a, e, _⟩ := r; subst e; rfl
  | adr x => have e : v = .ref x := r; subst e; rfl
  | kt x => obtain ⟨a, e, _⟩ := r; subst e; rfl
def rIsA : R2 := fun x y H Q => (y = .non ∧ Q (.bl (decide (x = .non))) H) ∨ ∃ a b, x = .bl a ∧ y = .bl b ∧ Q (.bl (decide (a = b))) H
def rIsNotA : R2 := fun x y H Q => (y = .non ∧ Q (.bl (!decide (x = .non))) H) ∨ ∃ a b, x = .bl a ∧ y = .bl b ∧ Q (.bl (!decide (a = b))) H
theorem op_isA : OpR X (compareOp .Is) rIsA := op_isN.or op_isBl
theorem op_isNotA : OpR X (compareOp .IsNot) rIsNotA := op_notN.or op_notBl
theorem rd_is : RD K rIsA dIs := by
  intro W H st x y dx dy Q E hh rx ry hq
  cases dy with
  | non =>
    have hq' : Fin K W H E ((pure (.bl (isN dx)) : M D) st) Q := by cases dx <;> exact hq
    refine .inl ⟨ry, ?_⟩
    rw [isN_of rx]
    exact Fin.ret hq' hh rfl
  | bl b =>
    cases dx with
    | bl a => exact .inr ⟨a, b, rx, ry, Fin.ret hq hh rfl⟩
    | _ => exact hq.elim
  | _ => cases dx <;> exact hq.elim
theorem rd_isNot : RD K rIsNotA dIsNot := by
  intro W H st x y dx dy Q E hh rx ry hq
  cases dy with
  | non =>
    have hq' : Fin K W H E ((pure (.bl (!isN dx)) : M D) st) Q := by cases dx <;> exact hq
    refine .inl ⟨ry, ?_⟩
    rw [isN_of rx]
    exact Fin.ret hq' hh rfl
  | bl b =>
    cases dx with
    | bl a => exact .inr ⟨a, b, rx, ry, Fin.ret hq hh rfl⟩
    | _ => exact hq.elim
  | _ => cases dx <;> exact hq.elim

/-! ### items -/
def dIndex : D → D → M D
  | .lst xs, .int i => (match atI xs i with | some d => pure d | none => M.stuck)
  | .tup xs, .int i => (match atI xs i with | some d => pure d | none => M.stuck)
  | .str cs, .int i => (match atI cs i with | some c => pure (.str [c]) | none => M.stuck)
  | .scr ns, .int i => (match atI ns i with | some n => pure (.int n) | none => M.stuck)
  | .ref k, .int i => fun st => (match st[k]? with
    | some (.lst xs) => (match atI xs i with | some d => .ok d st | none => .stuck)
    | _ => .stuck)
  | _, _ => M.stuck
theorem atI_rep {W : Wd} {H : Hp} {ds : List D} {vs : List V} {i : Int} {d : D} (r : Reps K W H vs ds) (h : atI ds i = some d) : ∃ v, atI vs i = some v ∧ Rep K W H v d := by
  unfold atI at h ⊢
  rw [r.length]
  cases e : ixN ds.length i with
  | none => rw [e] at h; cases h
  | some j =>
    rw [e] at h
    exact r.get h
theorem atI_mem {α : Type} {xs : List α} {i : Int} {x : α} (h : atI xs i = some x) : x ∈ xs := by
  obtain ⟨j, _, h2, _⟩ := atI_get h
  exact List.mem_of_getElem? h2
theorem rd_index : RD K (rIx K) dIndex := by
  intro W H st x y dx dy Q E hh rx ry hq
  cases dy with
  | int i =>
    cases dx with
    | lst xs =>
      have hq' : Fin K W H E ((match atI xs i with | some d => pure d | none => M.stuck : M D) st) Q := hq
      cases e : atI xs i with
      | none => rw [e] at hq'; exact hq'.elim
      | some d =>
        rw [e] at hq'
        obtain ⟨a, vs, rfl, _, ha, hz, r⟩ := rx
        obtain ⟨v, q1, q2⟩ := atI_rep r e
        exact .inl ⟨a, vs, i, v, rfl, ry, SqL.of ha, q1, Fin.ret hq' hh q2⟩
    | tup xs =>
      have hq' : Fin K W H E ((match atI xs i with | some d => pure d | none => M.stuck : M D) st) Q := hq
      cases e : atI xs i with
      | none => rw [e] at hq'; exact hq'.elim
      | some d =>
        rw [e] at hq'
        obtain ⟨a, vs, rfl, ha, r⟩ := Rep.tupSq rx
        obtain ⟨v, q1, q2⟩ := atI_rep r e
        exact .inr (.inl ⟨a, vs, i, v, rfl, ry, ha, q1, Fin.ret hq' hh q2⟩)
    | str cs =>
      have hq' : Fin K W H E ((match atI cs i with | some d => pure (.str [d]) | none => M.stuck : M D) st) Q := hq
      cases e : atI cs i with
      | none => rw [e] at hq'; exact hq'.elim
      | some c =>
        rw [e] at hq'
        have ho := sOk_iff.mp rx.2
        exact .inr (.inr ⟨mkS cs, i, c, rx.1, ry, by rw [mkS_len]; exact szLine ho.1, e, Fin.ret hq' hh ⟨rfl, sOk_iff.mpr ⟨by simp, fun c' hc' => by
          have : c' = c := by simpa using hc'
          rw [this]
          exact ho.2 c (atI_mem e)⟩⟩⟩)
    | scr ns =>
      have hq' : Fin K W H E ((match atI ns i with | some d => pure (.int d) | none => M.stuck : M D) st) Q := hq
      cases e : atI ns i with
      | none => rw [e] at hq'; exact hq'.elim
      | some n =>
        rw [e] at hq'
        obtain ⟨a, rfl, ha⟩ := Rep.scrSq rx
        refine .inl ⟨a, ns.map V.int, i, .int n, rfl, ry, ha, ?_, Fin.ret hq' hh rfl⟩
        unfold atI at e ⊢
        rw [List.length_map]
        cases e2 : ixN ns.length i with
        | none => rw [e2] at e; cases e
        | some j =>
          rw [e2] at e
          have e' : ns[j]? = some n := e
          show (ns.map V.int)[j]? = some (.int n)
          rw [List.getElem?_map, e']
          rfl
    | ref k =>
      have hq' : Fin K W H E (match st[k]? with
        | some (.lst xs) => (match atI xs i with | some d => .ok d st | none => .stuck)
        | _ => .stuck : R D) Q := hq
      cases e : st[k]? with
      | none => rw [e] at hq'; exact hq'.elim
      | some c =>
        rw [e] at hq'
        cases c with
        | lst xs =>
          have hq2 : Fin K W H E (match atI xs i with | some d => .ok d st | none => .stuck : R D) Q := hq'
          cases e2 : atI xs i with
          | none => rw [e2] at hq2; exact hq2.elim
          | some d =>
            rw [e2] at hq2
            obtain ⟨a, rfl, ha⟩ := rx
            obtain ⟨_, vs, h1, hz, r⟩ := hh.cell k _ a e ha
            obtain ⟨v, q1, q2⟩ := atI_rep r e2
            exact .inl ⟨a, vs, i, v, rfl, ry, SqL.of h1, q1, Fin.ret hq2 hh q2⟩
        | _ => exact hq'.elim
    | _ => exact hq.elim
  | _ => cases dx <;> exact hq.elim
end
section
variable {X : Cx} {E : St → XK} {σd : List Sl} {a b : Expr} {ma mb : M D} {pos p2 : Pos}
theorem de_ix (ha : DE X E σd a ma) (hb : DE X E σd b mb) (hs : PlainIx b) : DE X E σd (.Subscript a b pos) (ma >>= fun x => mb >>= fun y => dIndex x y) :=
  ⟨pe_imp (pe_ix ix_seq ha.pe hb.pe hs) fun σ H Q ⟨W, st, hh, hs, h⟩ =>
    tD_run hh hs h fun d v W1 H1 st1 e1 hh1 hs1 r1 h1 => tD_run hh1 hs1 h1 fun d2 v2 W2 H2 st2 e2 hh2 hs2 r2 h2 => rd_index W2 H2 st2 v v2 d d2 Q (E σ) hh2 (r1.ext e2) r2 h2⟩
/-! ### slices -/
def tDO (K : PySem.W.Frag) (σd : List Sl) (E : St → XK) (m : M (Option Int)) : TO := fun σ H Q => ∃ (W : Wd) (st : Store), Holds K W H st ∧ Slots K W H σd σ ∧ After K W H (E σ) (m st) fun o W' H' _ => Q o H'
structure DO (X : Cx) (E : St → XK) (σd : List Sl) (e : Option Expr) (m : M (Option Int)) : Prop where
  po : PO X e (tDO X.K σd E m)
theorem po_imp {e : Option Expr} {t t' : TO} (h : PO X e t) (f : ∀ σ H Q, t' σ H Q → t σ H Q) : PO X e t' := ⟨fun pins s σ H Q I q => h.run pins s σ H Q I (f σ H Q q)⟩
theorem do_none : DO X E σd none (pure none) := ⟨po_imp po_none fun σ H Q ⟨W, st, hh, hs, h⟩ => h W H Ext.rfl' hh⟩
def asI : D → M (Option Int)
  | .int i => pure (some i)
  | _ => M.stuck
theorem do_some (ha : DE X E σd a ma) : DO X E σd (some a) (ma >>= asI) :=
  ⟨po_imp (po_some ha.pe) fun σ H Q ⟨W, st, hh, hs, h⟩ => tD_run hh hs h fun d v W1 H1 st1 e1 hh1 hs1 r1 h1 => by
    cases d with
    | int i => exact ⟨i, r1, h1 W1 H1 Ext.rfl' hh1⟩
    | _ => exact h1.elim⟩
def cutL {α : Type} (xs : List α) (lo hi : Option Int) : List α := (xs.drop (HT.sIx xs.length 0 lo)).take (HT.sIx xs.length xs.length hi - HT.sIx xs.length 0 lo)
theorem cutL_mem {α : Type} {xs : List α} {lo hi : Option Int} {x : α} (h : x ∈ cutL xs lo hi) : x ∈ xs := List.mem_of_mem_drop (List.mem_of_mem_take h)
theorem cutL_len {α : Type} (xs : List α) (lo hi : Option Int) : (cutL xs lo hi).length ≤ xs.length := by
  unfold cutL
  rw [List.length_take, List.length_drop]
  omega
theorem cutL_whole {α : Type} {xs : List α} {lo hi : Option Int} (h1 : HT.sIx xs.length 0 lo = 0) (h2 : HT.sIx xs.length xs.length hi = xs.length) : cutL xs lo hi = xs := by
  unfold cutL
  rw [h1, h2, List.drop_zero, Nat.sub_zero, List.take_length]
def dSlice : D → Option Int → Option Int → M D
  | .lst xs, lo, hi => pure (.lst (cutL xs lo hi))
  | .tup xs, lo, hi => pure (.tup (cutL xs lo hi))
  | .str cs, lo, hi => pure (.str (cutL cs lo hi))
  | .ref k, lo, hi => fun st => (match st[k]? with
    | some (.lst xs) => .ok (.lst (cutL xs lo hi)) st
    | _ => .stuck)
  | _, _, _ => M.stuck
def rSlAny (K : PySem.W.Frag) : V → Option Int → Option Int → Hp → VK → Prop := fun x lo hi H Q => rSlL K x lo hi H Q ∨ rSlA K x lo hi H Q ∨ rSlS x lo hi H Q
theorem sl_any : SlR X (rSlAny X.K) := sl_list.or (sl_tupA.or sl_str)
theorem Reps.cut {K : PySem.W.Frag} {W : Wd} {H : Hp} {vs : List V} {ds : List D} (r : Reps K W H vs ds) (lo hi : Option Int) : Reps K W H (cutV vs lo hi) (cutL ds lo hi) := by
  unfold cutV cutL
  rw [r.length]
  exact (r.drop _).take _
theorem rs_slice {K : PySem.W.Frag} {W : Wd} {H : Hp} {st : Store} {x : V} {dx : D} {lo hi : Option Int} {Q : VK} {E : XK} (hh : Holds K W H st) (rx : Rep K W H x dx) (hq : Fin K W H E (dSlice dx lo hi st) Q) : rSlAny K x lo hi H Q := by
  cases dx with
  | lst xs =>
    obtain ⟨a, vs, rfl, _, ha, hz, r⟩ := rx
    exact .inl ⟨a, vs, rfl, SqL.of ha, fun p hp => Fin.newL hq hh hp (r.cut lo hi) (Nat.le_trans (cutL_len _ _ _) hz)⟩
  | tup xs =>
    have rx0 := rx
    obtain ⟨a, vs, rfl, ha, r⟩ := Rep.tupSq rx
    refine .inr (.inl ⟨a, vs, rfl, ha, fun ⟨h1, h2⟩ => ?_, fun _ p hp => Fin.newT hq hh hp (r.cut lo hi) (Nat.le_trans (cutL_len _ _ _) (Rep.tupLen rx0))⟩)
    rw [r.length] at h1 h2
    have hq' : Fin K W H E (.ok (.tup (cutL xs lo hi)) st) Q := hq
    rw [cutL_whole h1 h2] at hq'
    exact Fin.ret hq' hh rx0
  | str cs =>
    have ho := sOk_iff.mp rx.2
    refine .inr (.inr ⟨mkS cs, rx.1, by rw [mkS_len]; exact szLine ho.1, ?_⟩)
    have e : cutS (mkS cs) lo hi = mkS (cutL cs lo hi) := by
      unfold cutS cutL
      rw [mkS_len, mkS_cps]
    rw [e]
    exact Fin.ret hq hh ⟨rfl, sOk_sub rx.2 (cutL_len _ _ _) fun c hc => cutL_mem hc⟩
  | ref k =>
    have hq' : Fin K W H E (match st[k]? with
      | some (.lst xs) => .ok (.lst (cutL xs lo hi)) st
      | _ => .stuck : R D) Q := hq
    cases e : st[k]? with
    | none => rw [e] at hq'; exact hq'.elim
    | some c =>
      rw [e] at hq'
      cases c with
      | lst xs =>
        obtain ⟨a, rfl, ha⟩ := rx
        obtain ⟨_, vs, h1, hz, r⟩ := hh.cell k _ a e ha
        exact .inl ⟨a, vs, rfl, SqL.of h1, fun p hp => Fin.newL hq' hh hp (r.cut lo hi) (Nat.le_trans (cutL_len _ _ _) hz)⟩
      | _ => exact hq'.elim
  | _ => exact hq.elim
theorem tDO_run {m : M (Option Int)} {β : Type} {f : Option Int → M β} {σ : St} {H : Hp} {k : β → Wd → Hp → Store → Prop} {W : Wd} {st : Store} {Q : Option Int → Hp → Prop} {K : PySem.W.Frag} (hh : Holds K W H st) (hs : Slots K W H σd σ) (h : After K W H (E σ) ((m >>= f) st) k)
    (g : ∀ d W' H' st', Ext W W' H H' → Holds K W' H' st' → Slots K W' H' σd σ → After K W' H' (E σ) (f d st') k → Q d H') : tDO K σd E m σ H Q :=
  ⟨W, st, hh, hs, (After.next hs hh h).mono fun d W' H' st' _ _ _ ⟨e, h1, h2, h3⟩ => g d W' H' st' e h1 h2 h3⟩
theorem de_slice {lo hi : Option Expr} {ml mh : M (Option Int)} (ha : DE X E σd a ma) (hl : DO X E σd lo ml) (hu : DO X E σd hi mh) : DE X E σd (.Subscript a (.Slice lo hi none p2) pos) (ma >>= fun x => ml >>= fun l => mh >>= fun u => dSlice x l u) :=
  ⟨pe_imp (pe_slice sl_any ha.pe hl.po hu.po) fun σ H Q ⟨W, st, hh, hs, h⟩ =>
    tD_run hh hs h fun d v W1 H1 st1 e1 hh1 hs1 r1 h1 => tDO_run hh1 hs1 h1 fun l W2 H2 st2 e2 hh2 hs2 h2 => tDO_run hh2 hs2 h2 fun u W3 H3 st3 e3 hh3 hs3 h3 => rs_slice hh3 ((r1.ext e2).ext e3) h3⟩
/-! ### built-ins of one argument -/
def RC1 (K : PySem.W.Frag) (r : List V → Hp → VK → Prop) (f : D → M D) : Prop := ∀ (W : Wd) (H : Hp) (st : Store) (x : V) (dx : D) (Q : VK) (E : XK), Holds K W H st → Rep K W H x dx → Fin K W H E (f dx st) Q → r [x] H Q
theorem de_b1 {r : List V → Hp → VK → Prop} {f : D → M D} {id : String} {x : Str} {p : Pos} (hc : CallR X (.builtin id) r) (hf : RC1 X.K r f) (hg : Gl X x) (hm : X.mg x = none) (hv : bootBuiltins x = some (.builtin id)) (ha : DE X E σd a ma) (hn : x ≠ "__name__") (hdb : (x == ("__debug__" : Str)) = false)
    (he : starEach [a] X.env = [(false, eval a X.env)]) : DE X E σd (.Call (.Name x p) [a] [] pos) (ma >>= f) :=
  ⟨pe_imp (pe_callB hc hg hm hv (pa_cons ha.pe pa_nil he) hn hdb he) fun σ H Q ⟨W, st, hh, hs, h⟩ => tD_run hh hs h fun d v W1 H1 st1 e1 hh1 hs1 r1 h1 => hf W1 H1 st1 v d Q (E σ) hh1 r1 h1⟩
theorem de_ty1 {r : List V → Hp → VK → Prop} {f : D → M D} {T : String} {x : Str} {p : Pos} (hc : CallR X (.type T) r) (hf : RC1 X.K r f) (hg : Gl X x) (hm : X.mg x = none) (hv : bootBuiltins x = some (.type T)) (ha : DE X E σd a ma) (hn : x ≠ "__name__") (hdb : (x == ("__debug__" : Str)) = false)
    (he : starEach [a] X.env = [(false, eval a X.env)]) : DE X E σd (.Call (.Name x p) [a] [] pos) (ma >>= f) :=
  ⟨pe_imp (pe_callTy hc hg hm hv (pa_cons ha.pe pa_nil he) hn hdb he) fun σ H Q ⟨W, st, hh, hs, h⟩ => tD_run hh hs h fun d v W1 H1 st1 e1 hh1 hs1 r1 h1 => hf W1 H1 st1 v d Q (E σ) hh1 r1 h1⟩
end
end DL
/-! DL6: what is walked; comprehensions; loops; blocks; calls. -/
namespace DL
open PySem PySem.Spec L2

/-! ### what is walked -/
/-- from (W0, H0) on the iterator J gives the data ds, one by one -/
def Walks (K : PySem.W.Frag) (J : It) (ds : List D) (W0 : Wd) (H0 : Hp) : Prop := ∀ (W : Wd) (H : Hp) (st : Store), Ext W0 W H0 H → Holds K W H st →
  J.stop ds.length H ∧ ∀ (i : Nat) (d : D), ds[i]? = some d → J.go i H ∧ ∀ x H', J.yld i H x H' → ∃ W', Ext W W' H H' ∧ Holds K W' H' st ∧ Rep K W' H' x d
def tDI (K : PySem.W.Frag) (σd : List Sl) (E : St → XK) (m : M (List D)) : TI := fun σ H R => ∃ (W : Wd) (st : Store), Holds K W H st ∧ Slots K W H σd σ ∧ After K W H (E σ) (m st) fun ds W' H' _ => ds.length ≤ 16777216 → ∀ J, Walks K J ds W' H' → R J H'
structure DI (X : Cx) (E : St → XK) (σd : List Sl) (tg e : Expr) (m : M (List D)) : Prop where
  pi : PI X tg e (tDI X.K σd E m)
theorem pi_imp {X : Cx} {tg e : Expr} {t t' : TI} (h : PI X tg e t) (f : ∀ σ H R, t' σ H R → t σ H R) : PI X tg e t' := ⟨fun pins s σ H R I q => h.run pins s σ H R I (f σ H R q)⟩
theorem pi_or {X : Cx} {tg e : Expr} {t t' : TI} (h : PI X tg e t) (h' : PI X tg e t') : PI X tg e (fun σ H R => t σ H R ∨ t' σ H R) := ⟨fun pins s σ H R I q => q.elim (h.run pins s σ H R I) (h'.run pins s σ H R I)⟩
section
variable {K : PySem.W.Frag} {X : Cx} {E : St → XK} {σd : List Sl} {tg a b : Expr} {ma mb : M D} {pos p2 : Pos} {W W' : Wd} {H H' : Hp}
theorem walks_list {p : Addr} {vs : List V} {ds : List D} (nu : ¬ W.U p) (hp : H p = some (.lst vs)) (r : Reps K W H vs ds) : Walks K (Itl K p) ds W H := by
  intro W1 H1 st e hh
  obtain ⟨n1, h1⟩ := e.at nu hp
  have r1 := r.ext e
  refine ⟨⟨vs, SqL.of h1, by rw [r.length]; exact Nat.le_refl _⟩, fun i d hd => ?_⟩
  obtain ⟨v, q1, q2⟩ := r1.get hd
  refine ⟨⟨vs, v, SqL.of h1, q1⟩, fun x H' ⟨e1, e2⟩ => ?_⟩
  subst e1
  have e3 := e2 vs (SqL.of h1)
  rw [q1] at e3
  cases e3
  exact ⟨W1, Ext.rfl', hh, q2⟩
theorem walks_tup {p : Addr} {vs : List V} {ds : List D} (hp : (¬ W.U p ∧ H p = some (.tup vs)) ∨ SqT K (fun _ => none) p vs) (r : Reps K W H vs ds) : Walks K (Itt K p) ds W H := by
  intro W1 H1 st e hh
  have h1 : SqT K H1 p vs := by
    rcases hp with ⟨nu, hp⟩ | hp
    · exact SqT.of (e.at nu hp).2
    · rcases hp with h1 | h1
      · rcases h1 with h1 | ⟨o, h1⟩ <;> cases h1
      · exact .inr h1
  have r1 := r.ext e
  refine ⟨⟨vs, h1, by rw [r.length]; exact Nat.le_refl _⟩, fun i d hd => ?_⟩
  obtain ⟨v, q1, q2⟩ := r1.get hd
  refine ⟨⟨vs, v, h1, q1⟩, fun x H' ⟨e1, e2⟩ => ?_⟩
  subst e1
  have e3 := e2 vs h1
  rw [q1] at e3
  cases e3
  exact ⟨W1, Ext.rfl', hh, q2⟩
theorem walks_str {cs : List Nat} (ho : sOk cs = true) : Walks K (Its (mkS cs)) (cs.map fun c => .str [c]) W H := by
  intro W1 H1 st e hh
  refine ⟨by show (mkS cs).cps.size ≤ _; simp, fun i d hd => ?_⟩
  rw [List.getElem?_map] at hd
  cases q : cs[i]? with
  | none => rw [q] at hd; cases hd
  | some c =>
    rw [q] at hd
    cases hd
    refine ⟨?_, fun x H' ⟨e1, c', e2, e3⟩ => ?_⟩
    · show i < (mkS cs).cps.size
      have := (List.getElem?_eq_some_iff.mp q).1
      simpa using this
    · subst e1
      have e4 : cs[i]? = some c' := by simpa using e2
      rw [q] at e4
      cases e4
      refine ⟨W1, Ext.rfl', hh, e3, ?_⟩
      rw [sOk_iff] at ho ⊢
      exact ⟨by simp, fun c' hc' => by
        have : c' = c := by simpa using hc'
        rw [this]
        exact ho.2 c (List.mem_of_getElem? q)⟩
/-- lo, lo + 1, .. -/
def upFrom (lo : Int) (n : Nat) : List D := (List.range n).map fun (i : Nat) => D.int (lo + (i : Int))
theorem upFrom_len (lo : Int) (n : Nat) : (upFrom lo n).length = n := by simp [upFrom]
theorem walks_range {lo : Int} {n : Nat} : Walks K (Itr lo n) (upFrom lo n) W H := by
  intro W1 H1 st e hh
  have hl : (upFrom lo n).length = n := by simp [upFrom]
  refine ⟨by show n ≤ _; rw [hl]; exact Nat.le_refl _, fun i d hd => ?_⟩
  have hi : i < n := by
    have := (List.getElem?_eq_some_iff.mp hd).1
    rw [hl] at this
    exact this
  refine ⟨hi, fun x H' ⟨e1, e2⟩ => ?_⟩
  subst e1
  refine ⟨W1, Ext.rfl', hh, ?_⟩
  unfold upFrom at hd
  rw [List.getElem?_map, List.getElem?_range hi] at hd
  cases hd
  exact e2
def asW : D → M (List D)
  | .lst xs => pure xs
  | .tup xs => pure xs
  | .str cs => pure (cs.map fun c => .str [c])
  | _ => M.stuck
theorem bind_ok {α β : Type} {m : M α} {f : α → M β} {st st' : Store} {a : α} (h : m st = .ok a st') : (m >>= f) st = f a st' := by
  show (match m st with | .ok a s' => f a s' | .exc e s' => .exc e s' | .stuck => .stuck) = f a st'
  rw [h]
theorem bind_exc {α β : Type} {m : M α} {f : α → M β} {st st' : Store} {e : Ex} (h : m st = .exc e st') : (m >>= f) st = .exc e st' := by
  show (match m st with | .ok a s' => f a s' | .exc e s' => .exc e s' | .stuck => .stuck) = .exc e st'
  rw [h]
theorem bind_stuck {α β : Type} {m : M α} {f : α → M β} {st : Store} (h : m st = .stuck) : (m >>= f) st = .stuck := by
  show (match m st with | .ok a s' => f a s' | .exc e s' => .exc e s' | .stuck => .stuck) = .stuck
  rw [h]
/-- a list, a tuple, a text -/
theorem di_any (ha : DE X E σd a ma) : DI X E σd tg a (ma >>= asW) := by
  refine ⟨pi_imp (pi_or (pi_list ha.pe) (pi_or (pi_tup ha.pe) (pi_str ha.pe))) fun σ H R ⟨W, st, hh, hs, h⟩ => ?_⟩
  cases q : ma st with
  | ok d st1 =>
    rw [bind_ok q] at h
    cases d with
    | lst xs =>
      refine .inl ⟨W, st, hh, hs, ?_⟩
      rw [q]
      rintro W1 H1 e1 hh1 v ⟨p, vs, rfl, nu, hp, hz, r⟩
      exact ⟨p, rfl, ⟨vs, SqL.of hp⟩, h W1 H1 e1 hh1 hz _ (walks_list nu hp r)⟩
    | tup xs =>
      refine .inr (.inl ⟨W, st, hh, hs, ?_⟩)
      rw [q]
      intro W1 H1 e1 hh1 v r0
      obtain ⟨p', vs', e', hp', _⟩ := Rep.tupSq r0
      subst e'
      obtain ⟨p, vs, e, hp, hz, r⟩ := r0
      cases e
      exact ⟨_, rfl, ⟨_, hp'⟩, h W1 H1 e1 hh1 hz _ (walks_tup hp r)⟩
    | str cs =>
      refine .inr (.inr ⟨W, st, hh, hs, ?_⟩)
      rw [q]
      rintro W1 H1 e1 hh1 v ⟨rfl, ho⟩
      exact ⟨_, rfl, h W1 H1 e1 hh1 (by rw [List.length_map]; exact (sOk_iff.mp ho).1) _ (walks_str ho)⟩
    | _ => exact h.elim
  | exc x st1 =>
    rw [bind_exc q] at h
    refine .inl ⟨W, st, hh, hs, ?_⟩
    rw [q]
    exact h
  | stuck =>
    rw [bind_stuck q] at h
    exact h.elim
def rng1 : D → M (List D)
  | .int n => if n < 16777216 ∧ -16777216 ≤ n then pure (upFrom 0 n.toNat) else M.stuck
  | _ => M.stuck
def rng2 : D → D → M (List D)
  | .int m, .int n => if (n < 8388608 ∧ -8388608 ≤ n) ∧ m < 8388608 ∧ -8388608 ≤ m then pure (upFrom m (n - m).toNat) else M.stuck
  | _, _ => M.stuck
theorem di_range1 {p : Pos} (hg : Gl X "range") (hm : X.mg "range" = none) (ha : DE X E σd a ma) (hs : starEach [a] X.env = [(false, eval a X.env)]) : DI X E σd tg (.Call (.Name "range" p) [a] [] pos) (ma >>= rng1) := by
  refine ⟨pi_imp (pi_range1 hg hm (pa_cons ha.pe pa_nil hs) hs) fun σ H R ⟨W, st, hh, hs, h⟩ => tD_run hh hs h fun d v W1 H1 st1 e1 hh1 hs1 r1 h1 => ?_⟩
  cases d with
  | int n =>
    have h2 : After X.K W1 H1 (E σ) ((if n < 16777216 ∧ -16777216 ≤ n then pure (upFrom 0 n.toNat) else M.stuck : M (List D)) st1) fun ds W' H' _ => ds.length ≤ 16777216 → ∀ J, Walks X.K J ds W' H' → R J H' := h1
    by_cases hz : n < 16777216 ∧ -16777216 ≤ n
    · rw [if_pos hz] at h2
      have r1' : v = .int n := r1
      subst r1'
      exact ⟨n, rfl, by omega, by omega, h2 W1 H1 Ext.rfl' hh1 (by rw [upFrom_len]; omega) _ walks_range⟩
    · rw [if_neg hz] at h2
      exact h2.elim
  | _ => exact h1.elim
theorem di_range2 {p : Pos} (hg : Gl X "range") (hm : X.mg "range" = none) (ha : DE X E σd a ma) (hb : DE X E σd b mb) (hs : starEach [a, b] X.env = [(false, eval a X.env), (false, eval b X.env)]) (hs2 : starEach [b] X.env = [(false, eval b X.env)]) : DI X E σd tg (.Call (.Name "range" p) [a, b] [] pos) (ma >>= fun x => mb >>= fun y => rng2 x y) := by
  refine ⟨pi_imp (pi_range2 hg hm (pa_cons ha.pe (pa_cons hb.pe pa_nil hs2) (by rw [hs, hs2])) hs hs2) fun σ H R ⟨W, st, hh, hs, h⟩ => tD_run hh hs h fun d v W1 H1 st1 e1 hh1 hs1 r1 h1 => tD_run hh1 hs1 h1 fun d2 v2 W2 H2 st2 e2 hh2 hs2 r2 h2 => ?_⟩
  cases d with
  | int m =>
    cases d2 with
    | int n =>
      have h3 : After X.K W2 H2 (E σ) ((if (n < 8388608 ∧ -8388608 ≤ n) ∧ m < 8388608 ∧ -8388608 ≤ m then pure (upFrom m (n - m).toNat) else M.stuck : M (List D)) st2) fun ds W' H' _ => ds.length ≤ 16777216 → ∀ J, Walks X.K J ds W' H' → R J H' := h2
      by_cases hz : (n < 8388608 ∧ -8388608 ≤ n) ∧ m < 8388608 ∧ -8388608 ≤ m
      · rw [if_pos hz] at h3
        have r1' : v = .int m := r1
        have r2' : v2 = .int n := r2
        subst r1' r2'
        exact ⟨m, n, rfl, ⟨by omega, by omega, by omega, by omega⟩, h3 W2 H2 Ext.rfl' hh2 (by rw [upFrom_len]; omega) _ walks_range⟩
      · rw [if_neg hz] at h3
        exact h3.elim
    | _ => exact h2.elim
  | _ => cases d2 <;> exact h2.elim
end
end DL
/-! DL7: targets, list comprehensions. -/
namespace DL
open PySem PySem.Spec L2

section
variable {K : PySem.W.Frag} {W W' : Wd} {H H' : Hp} {σd : List Sl} {σ : St} {st : Store} {d : D} {v : V}
/-- a slot is filled -/
theorem Slots.put (s : Slots K W H σd σ) (i : Nat) (r : Rep K W H v d) : Slots K W H (σd.set i (.val d)) (σ.set i (some v)) where
  len := by rw [List.length_set, List.length_set]; exact s.len
  val := fun j e q => by
    by_cases h : j = i
    · subst h
      by_cases hl : j < σd.length
      · rw [List.getElem?_set_self hl] at q
        cases q
        exact ⟨v, List.getElem?_set_self (by rw [s.len]; exact hl), r⟩
      · rw [List.getElem?_eq_none (by rw [List.length_set]; omega)] at q
        cases q
    · rw [List.getElem?_set_ne (Ne.symm h)] at q ⊢
      exact s.val j e q
/-- slots forgotten -/
def wipeD (σd : List Sl) : List Nat → List Sl
  | [] => σd
  | v :: vs => (wipeD σd vs).set v .none
theorem Slots.drop (s : Slots K W H σd σ) (i : Nat) (o : Option V) : Slots K W H (σd.set i .none) (σ.set i o) where
  len := by rw [List.length_set, List.length_set]; exact s.len
  val := fun j e q => by
    have h : j ≠ i := fun h => by
      subst h
      by_cases hl : j < σd.length
      · rw [List.getElem?_set_self hl] at q
        cases q
      · rw [List.getElem?_eq_none (by rw [List.length_set]; omega)] at q
        cases q
    rw [List.getElem?_set_ne (Ne.symm h)] at q ⊢
    exact s.val j e q
theorem Slots.wipe (s : Slots K W H σd σ) : ∀ vs : List Nat, Slots K W H (wipeD σd vs) (L2.wipe σ vs)
  | [] => s
  | i :: vs => (Slots.wipe s vs).drop i none
theorem set_none_comm (σ : St) (i j : Nat) : (σ.set i (none : Option V)).set j none = (σ.set j none).set i none := by
  by_cases h : i = j
  · rw [h]
  · rw [List.set_comm _ _ h]
theorem wipe_out (σ : St) (i : Nat) : ∀ vs : List Nat, L2.wipe (σ.set i none) vs = (L2.wipe σ vs).set i none
  | [] => rfl
  | j :: vs => by
    show (L2.wipe (σ.set i none) vs).set j none = ((L2.wipe σ vs).set j none).set i none
    rw [wipe_out σ i vs, set_none_comm]
theorem wipe_set (σ : St) (i : Nat) (o : Option V) : ∀ vs : List Nat, i ∈ vs → L2.wipe (σ.set i o) vs = L2.wipe σ vs
  | j :: vs, h => by
    show (L2.wipe (σ.set i o) vs).set j none = (L2.wipe σ vs).set j none
    by_cases hi : i ∈ vs
    · rw [wipe_set σ i o vs hi]
    · have e : i = j := by
        rcases List.mem_cons.mp h with e | e
        · exact e
        · exact absurd e hi
      subst e
      have key : ∀ (τ : St) (ws : List Nat), (L2.wipe τ ws).set i none = L2.wipe (τ.set i none) ws := fun τ ws => (wipe_out τ i ws).symm
      rw [key, key, List.set_set]
theorem wipe_wipe (σ : St) : ∀ vs : List Nat, L2.wipe (L2.wipe σ vs) vs = L2.wipe σ vs := by
  have key : ∀ (ws vs : List Nat), (∀ i ∈ ws, i ∈ vs) → L2.wipe (L2.wipe σ ws) vs = L2.wipe σ vs := by
    intro ws
    induction ws with
    | nil => intro vs _; rfl
    | cons j ws ih =>
      intro vs h
      show L2.wipe ((L2.wipe σ ws).set j none) vs = _
      rw [wipe_set _ _ _ vs (h j List.mem_cons_self), ih vs fun i hi => h i (List.mem_cons_of_mem _ hi)]
  exact fun vs => key vs vs fun i hi => hi
end

/-! ### targets -/
/-- a target: what it wants of the datum (dec), what the slots are behind it (up); its slots are among ix -/
structure GOk (K : PySem.W.Frag) {P : Type} (g : TG) (ix : List Nat) (dec : D → Option P) (up : P → List Sl → List Sl) : Prop where
  run : ∀ (W : Wd) (H : Hp) (st : Store) (σd : List Sl) (σ : St) (d : D) (v : V) (p : P) (Q : St → Hp → Prop), Holds K W H st → Slots K W H σd σ → Rep K W H v d → dec d = some p →
    (∀ σ', Slots K W H (up p σd) σ' → (∀ vs, (∀ i ∈ ix, i ∈ vs) → L2.wipe σ' vs = L2.wipe σ vs) → Q σ' H) → g v σ H Q
def dec1 : D → Option D := some
def dec2 : D → Option (D × D)
  | .tup [a, b] => some (a, b)
  | _ => none
def dec3 : D → Option (D × D × D)
  | .tup [a, b, c] => some (a, b, c)
  | _ => none
section
variable {K : PySem.W.Frag}
theorem g_name (i : Nat) : GOk K (gName i) [i] dec1 (fun d s => s.set i (.val d)) := ⟨fun W H st σd σ d v p Q hh hs r e k => by
  cases e
  exact k _ (hs.put i r) fun vs h => wipe_set σ i _ vs (h i (by simp))⟩
theorem g_tup2 (i j : Nat) : GOk K (gTup K 2 (gCons (gName i) (gCons (gName j) gNil))) [i, j] dec2 (fun p s => (s.set i (.val p.1)).set j (.val p.2)) := ⟨fun W H st σd σ d v p Q hh hs r e k => by
  unfold dec2 at e
  split at e
  · rename_i a b
    cases e
    obtain ⟨q, vs, rfl, hq, r1⟩ := Rep.tupSq r
    obtain ⟨x, r', rfl, hx, r2⟩ := r1
    obtain ⟨y, r'', rfl, hy, r3⟩ := r2
    have e3 : r'' = [] := r3
    subst e3
    refine ⟨q, _, rfl, hq, rfl, x, _, rfl, y, _, rfl, rfl, ?_⟩
    exact k _ ((hs.put i hx).put j hy) fun ws h => by rw [wipe_set _ j _ ws (h j (by simp)), wipe_set _ i _ ws (h i (by simp))]
  · cases e⟩
theorem g_tup3 (i j l : Nat) : GOk K (gTup K 3 (gCons (gName i) (gCons (gName j) (gCons (gName l) gNil)))) [i, j, l] dec3 (fun p s => ((s.set i (.val p.1)).set j (.val p.2.1)).set l (.val p.2.2)) := ⟨fun W H st σd σ d v p Q hh hs r e k => by
  unfold dec3 at e
  split at e
  · rename_i a b c
    cases e
    obtain ⟨q, vs, rfl, hq, r1⟩ := Rep.tupSq r
    obtain ⟨x, r', rfl, hx, r2⟩ := r1
    obtain ⟨y, r'', rfl, hy, r3⟩ := r2
    obtain ⟨z, r''', rfl, hz, r4⟩ := r3
    have e3 : r''' = [] := r4
    subst e3
    refine ⟨q, _, rfl, hq, rfl, x, _, rfl, y, _, rfl, z, _, rfl, rfl, ?_⟩
    exact k _ (((hs.put i hx).put j hy).put l hz) fun ws h => by rw [wipe_set _ l _ ws (h l (by simp)), wipe_set _ j _ ws (h j (by simp)), wipe_set _ i _ ws (h i (by simp))]
  · cases e⟩
end

/-! ### list comprehensions -/
/-- an error that leaves here is not followed -/
def nox {α : Type} (m : M α) : M α := fun st => match m st with
  | .exc _ _ => .stuck
  | r => r
@[simp] theorem nox_pure {α : Type} (a : α) : nox (pure a : M α) = pure a := rfl
@[simp] theorem nox_stuck {α : Type} : nox (M.stuck : M α) = M.stuck := rfl
@[simp] theorem nox_throw {α : Type} (e : Ex) : nox (M.throw e : M α) = M.stuck := rfl
theorem nox_bind {α β : Type} (m : M α) (f : α → M β) : nox (m >>= f) = nox m >>= fun x => nox (f x) := by
  funext st
  show (match (match m st with | .ok a s' => f a s' | .exc e s' => .exc e s' | .stuck => .stuck : R β) with | .exc _ _ => .stuck | r => r) =
    (match (match m st with | .exc _ _ => .stuck | r => r : R α) with | .ok a s' => (match f a s' with | .exc _ _ => .stuck | r => r) | .exc e s' => .exc e s' | .stuck => .stuck : R β)
  cases m st <;> rfl
theorem After.nox {α : Type} {K : PySem.W.Frag} {W : Wd} {H : Hp} {E : XK} {m : M α} {st : Store} {k : α → Wd → Hp → Store → Prop} (h : After K W H E (nox m st) k) (E' : XK) : After K W H E' (m st) k := by
  have h' : After K W H E (match m st with | .exc _ _ => .stuck | r => r : R α) k := h
  cases q : m st with
  | ok a s => rw [q] at h'; exact h'
  | exc e s => rw [q] at h'; exact h'.elim
  | stuck => rw [q] at h'; exact h'.elim
def compM {P : Type} (dec : D → Option P) (test : P → M Bool) (elt : P → M D) : List D → M (List D)
  | [] => pure []
  | d :: ds => match dec d with
    | none => M.stuck
    | some p => nox (test p) >>= fun b => if b = true then nox (elt p) >>= fun y => compM dec test elt ds >>= fun r => pure (y :: r) else compM dec test elt ds
abbrev E0' : St → XK := fun _ _ _ _ => False
theorem pe_ex {X : Cx} {e : Expr} {α : Type} {t : α → TE} (h : ∀ a, PE X e (t a)) : PE X e (fun σ H Q => ∃ a, t a σ H Q) := ⟨fun pins s σ H Q I ⟨a, q⟩ => (h a).run pins s σ H Q I q⟩
theorem pt_ex {X : Cx} {e : Expr} {α : Type} {t : α → TT} (h : ∀ a, PT X e (t a)) : PT X e (fun σ H Q => ∃ a, t a σ H Q) := ⟨fun pins s σ H Q I ⟨a, q⟩ => (h a).run pins s σ H Q I q⟩
theorem pts_ex {X : Cx} {es : List Expr} {α : Type} {t : α → TT} (h : ∀ a, PTs X es (t a)) : PTs X es (fun σ H Q => ∃ a, t a σ H Q) := ⟨fun pins s σ H Q I ⟨a, q⟩ => (h a).run pins s σ H Q I q⟩
structure DTs (X : Cx) (E : St → XK) (σd : List Sl) (es : List Expr) (m : M Bool) : Prop where
  pts : PTs X es (tDT X.K σd E m)
theorem dts_nil {X : Cx} {E : St → XK} {σd : List Sl} : DTs X E σd [] (pure true) := ⟨⟨fun pins s σ H Q I ⟨W, st, hh, hs, h⟩ => pts_nil.run pins s σ H Q I (h W H Ext.rfl' hh)⟩⟩
theorem dts_one {X : Cx} {E : St → XK} {σd : List Sl} {e : Expr} {m : M Bool} (h : DT X E σd e m) : DTs X E σd [e] m := ⟨pts_one h.pt⟩
mutual
/-- an object that no datum leans on is written -/
theorem Rep.upd {K : PySem.W.Frag} {W : Wd} {H : Hp} {p : Addr} {o : HO} (hu : W.U p) : ∀ (d : D) (v : V), Rep K W H v d → Rep K W (upd H p o) v d
  | .non, _, h => h
  | .bl _, _, h => h
  | .int _, _, h => h
  | .str _, _, h => h
  | .lst xs, _, h => by
    obtain ⟨a, vs, rfl, nu, ha, hz, r⟩ := h
    exact ⟨a, vs, rfl, nu, by rw [upd_ne (a := p) (b := a) fun e => nu (e ▸ hu)]; exact ha, hz, Reps.upd hu xs vs r⟩
  | .tup xs, _, h => by
    obtain ⟨a, vs, rfl, h1, hz, r⟩ := h
    exact ⟨a, vs, rfl, h1.imp (fun ⟨nu, ha⟩ => ⟨nu, by rw [upd_ne (a := p) (b := a) fun e => nu (e ▸ hu)]; exact ha⟩) id, hz, Reps.upd hu xs vs r⟩
  | .scr ns, _, h => by
    obtain ⟨a, rfl, h1⟩ := h
    exact ⟨a, rfl, h1.imp (fun ⟨nu, oo, ho, ha⟩ => ⟨nu, oo, ho, by rw [upd_ne (a := p) (b := a) fun e => nu (e ▸ hu)]; exact ha⟩) id⟩
  | .fn _, _, h => h
  | .adr _, _, h => h
  | .kt ks, _, h => by
    obtain ⟨a, rfl, nu, ha⟩ := h
    exact ⟨a, rfl, nu, by rw [upd_ne (a := p) (b := a) fun e => nu (e ▸ hu)]; exact ha⟩
  | .ref i, _, h => h
theorem Reps.upd {K : PySem.W.Frag} {W : Wd} {H : Hp} {p : Addr} {o : HO} (hu : W.U p) : ∀ (ds : List D) (vs : List V), Reps K W H vs ds → Reps K W (L2.upd H p o) vs ds
  | [], _, h => h
  | d :: ds, _, h => by
    obtain ⟨v, r, rfl, h1, h2⟩ := h
    exact ⟨v, r, rfl, Rep.upd hu d v h1, Reps.upd hu ds r h2⟩
end
theorem FsOk.upd {κ : Type} {K : PySem.W.Frag} {W : Wd} {H : Hp} {p : Addr} {o : HO} (hu : W.U p) : ∀ {fs : List (κ × D)} {vfs : List (κ × V)}, FsOk K W H vfs fs → FsOk K W (L2.upd H p o) vfs fs
  | [], _, h => h
  | (x, d) :: fs, _, h => by
    obtain ⟨v, r, rfl, h1, h2⟩ := h
    exact ⟨v, r, rfl, h1.upd hu, FsOk.upd hu h2⟩
/-- the list that a comprehension fills: kept out of the data -/
def Wd.with (W : Wd) (p : Addr) : Wd := ⟨W.mu, fun a => W.U a ∨ a = p⟩
def Wd.less (W : Wd) (p : Addr) : Wd := ⟨W.mu, fun a => W.U a ∧ a ≠ p⟩
/-- an object that is new behind (W, H) is written -/
theorem Ext.mine {W W1 : Wd} {H H1 : Hp} {p : Addr} {o : HO} (e : Ext W W1 H H1) (hp : H p = none) : Ext W W1 H (upd H1 p o) where
  mu := e.mu
  u0 := e.u0
  new := e.new
  keep := fun a u hu q => by
    rw [upd_ne (ne_of_none q hp)]
    exact e.keep a u hu q
  dom := fun a u q => by
    rw [upd_ne (ne_of_none q hp)]
    exact e.dom a u q
theorem Holds.mine {K : PySem.W.Frag} {W : Wd} {H : Hp} {st : Store} {p : Addr} {o : HO} (hh : Holds K W H st) (hu : W.U p) (hm : p ∉ W.mu) : Holds K W (upd H p o) st := by
  refine ⟨hh.len, hh.nd, fun a h => ?_, fun a h => ?_, fun i c a h1 h2 => ?_⟩
  · by_cases e : a = p
    · exact ⟨o, by rw [e]; exact upd_same⟩
    · rw [upd_ne e]; exact hh.dom a h
  · by_cases e : a = p
    · exact ⟨o, by rw [e]; exact upd_same⟩
    · rw [upd_ne e]; exact hh.muAt a h
  · have ne : a ≠ p := fun e => by subst e; exact hm (List.mem_of_getElem? h2)
    have key : ∀ (d : D) (v : V), Rep K W H v d → Rep K W (upd H p o) v d := fun d v r => r.upd hu
    have c0 := hh.cell i c a h1 h2
    cases c with
    | lst xs => obtain ⟨u1, vs, q1, hz, q2⟩ := c0; exact ⟨u1, vs, by rw [upd_ne ne]; exact q1, hz, q2.upd hu⟩
    | ins C fs => obtain ⟨u1, dx, vfs, q1, q2⟩ := c0; exact ⟨u1, dx, vfs, by rw [upd_ne ne]; exact q1, FsOk.upd hu q2⟩
    | dic fs => obtain ⟨u1, vfs, q1, q2⟩ := c0; exact ⟨u1, vfs, by rw [upd_ne ne]; exact q1, FsOk.upd hu q2⟩
    | lck fs => obtain ⟨u1, od, vfs, q1, q2⟩ := c0; exact ⟨u1, od, vfs, by rw [upd_ne ne]; exact q1, FsOk.upd hu q2⟩
    | dead => trivial
    | tab x q =>
      obtain ⟨u1, e1, ps, h1, h2, h3⟩ := c0
      exact ⟨u1, e1, ps, by rw [upd_ne ne]; exact h1, h2, fun pos cv hc => let ⟨c, q1, q2, q3⟩ := h3 pos cv hc; ⟨c, q1, q2, by rw [upd_ne (a := p) (b := c) fun e => q2 (e ▸ hu)]; exact q3⟩⟩
    | tabG x q l m made => exact tabG_mono (fun z => z) (fun o z => by rw [upd_ne ne]; exact z) (fun c p2 nu z => ⟨nu, by rw [upd_ne (a := p) (b := c) fun e => nu (e ▸ hu)]; exact z⟩) (fun _ _ z => z) c0
/-- a list is taken as the frame's own -/
theorem Ext.with {W : Wd} {H : Hp} {p : Addr} {o : HO} (hp : H p = none) : Ext W (W.with p) H (upd H p o) where
  mu := ⟨[], by simp [Wd.with], by simp⟩
  u0 := fun a o h _ _ => .inl h
  new := fun a h => h.elim .inl fun e => .inr (by rw [e]; exact hp)
  keep := fun a u _ q => by rw [upd_ne (ne_of_none q hp)]; exact q
  dom := fun a u q => ⟨u, by rw [upd_ne (ne_of_none q hp)]; exact q⟩
theorem Holds.with {K : PySem.W.Frag} {W : Wd} {H : Hp} {st : Store} {p : Addr} {o : HO} (hh : Holds K W H st) (hp : H p = none) : Holds K (W.with p) (upd H p o) st where
  len := hh.len
  nd := hh.nd
  dom := fun a h => by
    rcases h with h | h
    · obtain ⟨u, q⟩ := hh.dom a h
      exact ⟨u, by rw [upd_ne (ne_of_none q hp)]; exact q⟩
    · subst h; exact ⟨o, upd_same⟩
  muAt := fun a z => let ⟨o', q⟩ := hh.muAt a z; ⟨o', by rw [upd_ne (ne_of_none q hp)]; exact q⟩
  cell := fun i c a h1 h2 => (hh.cell i c a h1 h2).ext (Ext.with hp) (fun u q => by rw [upd_ne (ne_of_none q hp)]; exact q) .inl
/-- .. and given away -/
theorem Ext.less {W W1 : Wd} {H H1 : Hp} {p : Addr} (e : Ext W W1 H H1) (hp : H p = none) : Ext W (W1.less p) H H1 where
  mu := e.mu
  u0 := fun a o hu hm q => ⟨e.u0 a o hu hm q, ne_of_none q hp⟩
  new := fun a h => e.new a h.1
  keep := e.keep
  dom := e.dom
mutual
/-- less is kept out of the data -/
theorem Rep.mono {K : PySem.W.Frag} {W W' : Wd} {H : Hp} (hm : W'.mu = W.mu) (hu : ∀ a, W'.U a → W.U a) : ∀ (d : D) (v : V), Rep K W H v d → Rep K W' H v d
  | .non, _, h => h
  | .bl _, _, h => h
  | .int _, _, h => h
  | .str _, _, h => h
  | .lst xs, _, h => by
    obtain ⟨a, vs, rfl, nu, ha, hz, r⟩ := h
    exact ⟨a, vs, rfl, fun z => nu (hu _ z), ha, hz, Reps.mono hm hu xs vs r⟩
  | .tup xs, _, h => by
    obtain ⟨a, vs, rfl, h1, hz, r⟩ := h
    refine ⟨a, vs, rfl, ?_, hz, Reps.mono hm hu xs vs r⟩
    exact h1.imp (fun ⟨nu, ha⟩ => ⟨fun z => nu (hu _ z), ha⟩) id
  | .scr ns, _, h => by
    obtain ⟨a, rfl, h1⟩ := h
    exact ⟨a, rfl, h1.imp (fun ⟨nu, ha⟩ => ⟨fun z => nu (hu _ z), ha⟩) id⟩
  | .fn _, _, h => h
  | .adr _, _, h => h
  | .kt ks, _, h => by
    obtain ⟨a, rfl, nu, ha⟩ := h
    exact ⟨a, rfl, fun z => nu (hu _ z), ha⟩
  | .ref i, _, h => by
    obtain ⟨a, rfl, h⟩ := h
    exact ⟨a, rfl, by rw [hm]; exact h⟩
theorem Reps.mono {K : PySem.W.Frag} {W W' : Wd} {H : Hp} (hm : W'.mu = W.mu) (hu : ∀ a, W'.U a → W.U a) : ∀ (ds : List D) (vs : List V), Reps K W H vs ds → Reps K W' H vs ds
  | [], _, h => h
  | d :: ds, _, h => by
    obtain ⟨v, r, rfl, h1, h2⟩ := h
    exact ⟨v, r, rfl, Rep.mono hm hu d v h1, Reps.mono hm hu ds r h2⟩
end
theorem FsOk.mono {κ : Type} {K : PySem.W.Frag} {W W' : Wd} {H : Hp} (hm : W'.mu = W.mu) (hu : ∀ a, W'.U a → W.U a) : ∀ {fs : List (κ × D)} {vfs : List (κ × V)}, FsOk K W H vfs fs → FsOk K W' H vfs fs
  | [], _, h => h
  | (x, d) :: fs, _, h => by
    obtain ⟨v, r, rfl, h1, h2⟩ := h
    exact ⟨v, r, rfl, h1.mono hm hu, FsOk.mono hm hu h2⟩
theorem Holds.less {K : PySem.W.Frag} {W : Wd} {H : Hp} {st : Store} {p : Addr} (hh : Holds K W H st) (hm : p ∉ W.mu) : Holds K (W.less p) H st where
  len := hh.len
  nd := hh.nd
  dom := fun a h => hh.dom a h.1
  muAt := hh.muAt
  cell := fun i c a h1 h2 => by
    have c0 := hh.cell i c a h1 h2
    have ne : a ≠ p := fun e => by subst e; exact hm (List.mem_of_getElem? h2)
    cases c with
    | lst xs => obtain ⟨u1, vs, q1, hz, q2⟩ := c0; exact ⟨⟨u1, ne⟩, vs, q1, hz, Reps.mono (W := W) (W' := W.less p) rfl (fun _ z => z.1) _ _ q2⟩
    | ins C fs => obtain ⟨u1, dx, vfs, q1, q2⟩ := c0; exact ⟨⟨u1, ne⟩, dx, vfs, q1, FsOk.mono (W := W) (W' := W.less p) rfl (fun _ z => z.1) q2⟩
    | dic fs => obtain ⟨u1, vfs, q1, q2⟩ := c0; exact ⟨⟨u1, ne⟩, vfs, q1, FsOk.mono (W := W) (W' := W.less p) rfl (fun _ z => z.1) q2⟩
    | lck fs => obtain ⟨u1, od, vfs, q1, q2⟩ := c0; exact ⟨fun z => u1 z.1, od, vfs, q1, FsOk.mono (W := W) (W' := W.less p) rfl (fun _ z => z.1) q2⟩
    | dead => trivial
    | tab x q =>
      obtain ⟨u1, e1, ps, h1, h2, h3⟩ := c0
      exact ⟨⟨u1, ne⟩, e1, ps, h1, h2, fun pos cv hc => let ⟨c, q1, q2, q3⟩ := h3 pos cv hc; ⟨c, q1, fun z => q2 z.1, q3⟩⟩
    | tabG x q l m made => exact tabG_mono (fun z => ⟨z, ne⟩) (fun o z => z) (fun c p2 nu z => ⟨fun y => nu y.1, z⟩) (fun _ _ z => z) c0
section
variable {K : PySem.W.Frag} {X : Cx} {E : St → XK} {σd : List Sl}
/-- one comprehension's reading -/
theorem comp_reads {P : Type} {dec : D → Option P} {up : P → List Sl → List Sl} {test : P → M Bool} {elt : P → M D} {g : TG} {ix vs : List Nat} (hg : GOk K g ix dec up) (hix : ∀ i ∈ ix, i ∈ vs) {ds : List D} {J : It} {W : Wd} {H : Hp} {st : Store} {σ : St} {Q : VK} {EE : XK}
    (hJ : Walks K J ds W H) (hz : ds.length ≤ 16777216) (hh : Holds K W H st) (hs : Slots K W H σd σ) (h : Fin K W H EE ((compM dec test elt ds >>= fun r => pure (D.lst r)) st) Q) :
    ∀ Dl, H Dl = none → ∃ Wm : Nat → Nat → Hp → Prop, (∃ m, Wm 0 m (upd H Dl (.lst []))) ∧ ∀ i m H, Wm i m H →
      (J.stop i H ∧ Q (.ref Dl) H) ∨ (J.go i H ∧ ∃ Nx : Hp → Prop, (∀ H', Nx H' → ∃ m', m' < m ∧ Wm (i + 1) m' H') ∧ ∀ x H', J.yld i H x H' → g x (L2.wipe σ vs) H' fun σ2 H2 => L2.wipe σ2 vs = L2.wipe σ vs ∧
        (∃ p, tDT K (up p (wipeD σd vs)) E0' (test p) σ2 H2 fun b H3 =>
          if b = true then (∃ p, tD K (up p (wipeD σd vs)) E0' (elt p) σ2 H3 fun y H4 => ∃ acc, H4 Dl = some (.lst acc) ∧ acc.length < sizeLine ∧ Nx (upd H4 Dl (.lst (acc ++ [y])))) else Nx H3)) := by
  intro Dl hDl
  have nDl : ¬ W.U Dl := hh.fresh hDl
  -- the invariant: behind i items the list holds acc, the rest is to come
  refine ⟨fun i m H1 => m = ds.length - i ∧ i ≤ ds.length ∧ ∃ (W1 : Wd) (st1 : Store) (acc : List D) (ws : List V), Ext W W1 H H1 ∧ Holds K W1 H1 st1 ∧ W1.U Dl ∧ Dl ∉ W1.mu ∧ H1 Dl = some (.lst ws) ∧ Reps K W1 H1 ws acc ∧ acc.length ≤ i ∧
      After K W H EE (compM dec test elt (ds.drop i) st1) fun r W2 H2 st2 => ∀ v, Rep K W2 H2 v (.lst (acc ++ r)) → Q v H2, ?_, ?_⟩
  · refine ⟨ds.length, by omega, Nat.zero_le _, W.with Dl, st, [], [], Ext.with hDl, hh.with hDl, .inr rfl, ?_, upd_same, Reps.nil, Nat.le_refl _, ?_⟩
    · exact hh.muDom Dl hDl
    have h1 := After.bind h
    rw [List.drop_zero]
    refine h1.mono fun r W2 H2 st2 _ e2 hh2 q v rv => ?_
    exact After.pure' q hh2 v (by simpa using rv)
  · rintro i m H1 ⟨rfl, hi, W1, st1, acc, ws, e1, hh1, u1, m1, d1, r1, l1, a1⟩
    obtain ⟨js, jg⟩ := hJ W1 H1 st1 e1 hh1
    have s1 := hs.ext e1
    by_cases hlt : i < ds.length
    · refine .inr ?_
      have hd : ds[i]? = some ds[i] := List.getElem?_eq_getElem hlt
      obtain ⟨go, yld⟩ := jg i ds[i] hd
      refine ⟨go, fun H' => ∃ m', m' < ds.length - i ∧ (m' = ds.length - (i + 1) ∧ i + 1 ≤ ds.length ∧ ∃ (W1 : Wd) (st1 : Store) (acc : List D) (ws : List V), Ext W W1 H H' ∧ Holds K W1 H' st1 ∧ W1.U Dl ∧ Dl ∉ W1.mu ∧ H' Dl = some (.lst ws) ∧ Reps K W1 H' ws acc ∧ acc.length ≤ i + 1 ∧
        After K W H EE (compM dec test elt (ds.drop (i + 1)) st1) fun r W2 H2 st2 => ∀ v, Rep K W2 H2 v (.lst (acc ++ r)) → Q v H2), fun H' hn => hn, fun x H2 hy => ?_⟩
      obtain ⟨W2, e2, hh2, rx⟩ := yld x H2 hy
      have e02 : Ext W W2 H H2 := e1.trans e2
      rw [List.drop_eq_getElem_cons hlt] at a1
      unfold compM at a1
      cases hdec : dec ds[i] with
      | none => rw [hdec] at a1; exact a1.elim
      | some p =>
        rw [hdec] at a1
        have s2 := s1.ext e2
        have a2 : After K W H EE ((nox (test p) >>= fun b => if b = true then nox (elt p) >>= fun y => compM dec test elt (List.drop (i + 1) ds) >>= fun r => pure (y :: r) else compM dec test elt (List.drop (i + 1) ds)) st1) _ := a1
        refine hg.run W2 H2 st1 _ _ ds[i] x p _ hh2 (s2.wipe vs) rx hdec fun σ2 hs2 hw => ⟨by rw [hw vs hix, wipe_wipe], p, W2, st1, hh2, hs2, ?_⟩
        have b2 := (After.bind a2).shift e02
        refine (b2.nox (E0' σ2)).mono fun b W3 H3 st3 _ e3 hh3 q3 => ?_
        have e03 : Ext W W3 H H3 := e02.trans e3
        have keepD : ∀ {Wa Wb : Wd} {Ha Hb : Hp} {o : HO}, Dl ∉ Wa.mu → Wa.U Dl → Ha Dl = some o → Ext Wa Wb Ha Hb → Dl ∉ Wb.mu ∧ Wb.U Dl ∧ Hb Dl = some o := fun hm hu hd e => by
          refine ⟨fun z => ?_, e.u0 _ _ hu hm hd, e.keep _ _ (fun _ => hm) hd⟩
          rcases e.memMu z with z | z
          · exact hm z
          · rw [hd] at z; cases z
        obtain ⟨m2, u2, d2⟩ := keepD m1 u1 d1 e2
        obtain ⟨m3, u3, d3⟩ := keepD m2 u2 d2 e3
        have back : ∀ {α β : Type} {mm : M α} {ff : α → M β} {k : β → Wd → Hp → Store → Prop} {a : α} {st2 st3 : Store}, mm st2 = .ok a st3 → After K W H EE ((nox mm >>= ff) st2) k → After K W H EE (ff a st3) k := fun {α β mm ff k a st2 st3} q z => by
          have q' : nox mm st2 = .ok a st3 := by unfold nox; rw [q]
          rw [bind_ok q'] at z; exact z
        cases b with
        | true =>
          show ∃ p, tD K (up p (wipeD σd vs)) E0' (elt p) σ2 H3 _
          refine ⟨p, W3, st3, hh3, hs2.ext e3, ?_⟩
          rename_i qt
          have q3' : After K W H EE ((nox (elt p) >>= fun y => compM dec test elt (List.drop (i + 1) ds) >>= fun r => pure (y :: r)) st3) (fun r W2 H2 st2 => ∀ v, Rep K W2 H2 v (.lst (acc ++ r)) → Q v H2) := by
            have z := back qt a2
            exact z
          refine (((After.bind q3').shift e03).nox (E0' σ2)).mono fun y W4 H4 st4 qy e4 hh4 _ v rv => ?_
          have q4 := back qy q3'
          have e04 : Ext W W4 H H4 := e03.trans e4
          obtain ⟨m4, u4, d4⟩ := keepD m3 u3 d3 e4
          have r4 : Reps K W4 H4 ws acc := ((r1.ext e2).ext e3).ext e4
          have hl : ws.length < sizeLine := by rw [r4.length, sizeLine_eq]; omega
          refine ⟨ws, d4, hl, ds.length - (i + 1), by omega, rfl, hlt, W4, st4, acc ++ [y], ws ++ [v], ?_⟩
          have e45 : Ext W W4 H (upd H4 Dl (.lst (ws ++ [v]))) := e04.mine hDl
          refine ⟨e45, hh4.mine u4 m4, u4, m4, upd_same, (r4.append (.cons rv .nil)).upd u4, by rw [List.length_append, List.length_singleton]; omega, ?_⟩
          refine (After.bind q4).mono fun r W5 H5 st5 _ e5 hh5 q5 v5 rv5 => ?_
          exact After.pure' q5 hh5 v5 (by simpa using rv5)
        | false =>
          show ∃ m', _
          rename_i qt
          refine ⟨ds.length - (i + 1), by omega, rfl, hlt, W3, st3, acc, ws, e03, hh3, u3, m3, d3, (r1.ext e2).ext e3, by omega, ?_⟩
          have z := back qt a2
          exact z
    · have e : i = ds.length := by omega
      subst e
      refine .inl ⟨js, ?_⟩
      rw [List.drop_length] at a1
      have a2 : After K W H EE ((pure [] : M (List D)) st1) _ := a1
      have q := a2 (W1.less Dl) H1 (e1.less hDl) (hh1.less m1) (.ref Dl)
      refine q ⟨Dl, ws, rfl, fun z => z.2 rfl, d1, by simp; omega, ?_⟩
      have : Reps K (W1.less Dl) H1 ws acc := Reps.mono (W := W1) (W' := W1.less Dl) rfl (fun _ z => z.1) _ _ r1
      simpa using this
end
end DL
/-! DL8: comprehensions as expressions; blocks. -/
namespace DL
open PySem PySem.Spec L2

section
variable {X : Cx} {E : St → XK} {σd : List Sl} {tg iter elt : Expr} {ifs : List Expr} {scope : Scope} {pos : Pos} {mi : M (List D)}
theorem lc_reads {P : Type} {dec : D → Option P} {up : P → List Sl → List Sl} {test : P → M Bool} {me : P → M D} {g : TG} {ix vs : List Nat} {K : PySem.W.Frag} (hg : GOk K g ix dec up) (hix : ∀ i ∈ ix, i ∈ vs) {σ : St} {H : Hp} {Q : VK}
    (h : tD K σd E (mi >>= fun ds => compM dec test me ds >>= fun r => pure (.lst r)) σ H Q) :
    tLc (tDI K σd E mi) g (fun σ H Q => ∃ p, tDT K (up p (wipeD σd vs)) E0' (test p) σ H Q) (fun σ H Q => ∃ p, tD K (up p (wipeD σd vs)) E0' (me p) σ H Q) vs σ H Q := by
  obtain ⟨W, st, hh, hs, h⟩ := h
  exact ⟨W, st, hh, hs, (After.next hs hh h).mono fun ds W1 H1 st1 _ _ _ ⟨e1, hh1, hs1, h1⟩ hz J hJ => comp_reads hg hix hJ hz hh1 hs1 h1⟩
theorem de_lc {own : List (Str × Nat)} {P : Type} {dec : D → Option P} {up : P → List Sl → List Sl} {test : P → M Bool} {me : P → M D} {g : TG} {ix : List Nat} (hc : X.calm = true) (hN : X.N.Nodup) (hg : GOk X.K g ix dec up) (hix : ∀ i ∈ ix, i ∈ own.map (·.2)) (hi : DI X E σd tg iter mi) (ok : BlkOk X.N X.env.scope scope own)
    (hp : ∀ (s : Shared) (H : Hp) (C : Addr) (cl : List (Str × Addr)) (fp : List Addr), PG (X.blk s H scope (compEnvC scope cl C X.env) fp) tg g)
    (ht : ∀ (s : Shared) (H : Hp) (C : Addr) (cl : List (Str × Addr)) (fp : List Addr) (p : P), DTs (X.blk s H scope (compEnvC scope cl C X.env) fp) E0' (up p (wipeD σd (own.map (·.2)))) ifs (test p))
    (he : ∀ (s : Shared) (H : Hp) (C : Addr) (cl : List (Str × Addr)) (fp : List Addr) (p : P), DE (X.blk s H scope (compEnvC scope cl C X.env) fp) E0' (up p (wipeD σd (own.map (·.2)))) elt (me p))
    (hs : ∀ x, foldedSetIterable iter X.env x = pure x) :
    DE X E σd (.ListComp elt [⟨tg, iter, ifs, 0⟩] scope pos) (mi >>= fun ds => compM dec test me ds >>= fun r => pure (.lst r)) :=
  ⟨pe_imp (pe_lc (own := own) hc hN hi.pi ok hp (fun s H C cl fp => pts_ex fun p => (ht s H C cl fp p).pts) (fun s H C cl fp => pe_ex fun p => (he s H C cl fp p).pe) hs) fun σ H Q h => lc_reads hg hix h⟩
end

/-! ### blocks -/
inductive Fl (N T : Type) where
  | next (s : N) | ret (d : D) | brk (t : T) | cnt (t : T)
def tDB {N T : Type} (K : PySem.W.Frag) (σd : List Sl) (E : XK) (eN : N → List Sl) (eT : T → List Sl) (m : M (Fl N T)) : TS := fun Dn σ H => ∃ (W : Wd) (st : Store), Holds K W H st ∧ Slots K W H σd σ ∧ After K W H E (m st) fun f W' H' st' => match f with
  | .next s => ∀ σ', Slots K W' H' (eN s) σ' → Dn.nx σ' H'
  | .ret d => ∀ v, Rep K W' H' v d → Dn.rt v H'
  | .brk t => ∀ σ', Slots K W' H' (eT t) σ' → Dn.bk σ' H'
  | .cnt t => ∀ σ', Slots K W' H' (eT t) σ' → Dn.ct σ' H'
structure DB {N T : Type} (X : Cx) (E : XK) (σd : List Sl) (ss : List Stmt) (eN : N → List Sl) (eT : T → List Sl) (m : M (Fl N T)) : Prop where
  pss : PSs X ss (tDB X.K σd E eN eT m)
theorem pss_imp {X : Cx} {ss : List Stmt} {t t' : TS} (h : PSs X ss t) (f : ∀ Dn σ H, t' Dn σ H → t Dn σ H) : PSs X ss t' := ⟨fun pins s σ H Dn I q => h.run pins s σ H Dn I (f Dn σ H q)⟩
theorem pss_ex {X : Cx} {ss : List Stmt} {α : Type} {t : α → TS} (h : ∀ a, PSs X ss (t a)) : PSs X ss (fun Dn σ H => ∃ a, t a Dn σ H) := ⟨fun pins s σ H Dn I ⟨a, q⟩ => (h a).run pins s σ H Dn I q⟩
theorem ps_imp {X : Cx} {s : Stmt} {t t' : TS} (h : PS X s t) (f : ∀ Dn σ H, t' Dn σ H → t Dn σ H) : PS X s t' := ⟨fun pins s σ H Dn I q => h.run pins s σ H Dn I (f Dn σ H q)⟩
/-- less is known -/
inductive Wk : List Sl → List Sl → Prop where
  | nil : Wk [] []
  | n {t s : List Sl} {x : Sl} (h : Wk t s) : Wk (.none :: t) (x :: s)
  | k {t s : List Sl} {x : Sl} (h : Wk t s) : Wk (x :: t) (x :: s)
theorem Wk.len {t s : List Sl} (h : Wk t s) : t.length = s.length := by
  induction h with
  | nil => rfl
  | n _ ih => rw [List.length_cons, List.length_cons, ih]
  | k _ ih => rw [List.length_cons, List.length_cons, ih]
theorem Wk.at {t s : List Sl} (h : Wk t s) : ∀ (i : Nat) (x : Sl), t[i]? = some x → x = .none ∨ s[i]? = some x := by
  induction h with
  | nil => intro i x q; simp at q
  | n _ ih =>
    intro i x q
    cases i with
    | zero => simp at q; exact .inl q.symm
    | succ i => simpa using ih i x (by simpa using q)
  | k _ ih =>
    intro i x q
    cases i with
    | zero => simp at q; subst q; exact .inr rfl
    | succ i => simpa using ih i x (by simpa using q)
theorem Wk.refl : ∀ s : List Sl, Wk s s
  | [] => .nil
  | _ :: s => .k (Wk.refl s)
theorem Slots.wk {K : PySem.W.Frag} {W : Wd} {H : Hp} {σd τd : List Sl} {σ : St} (s : Slots K W H σd σ) (h : Wk τd σd) : Slots K W H τd σ := s.weak h.len h.at
section
variable {K : PySem.W.Frag} {X : Cx} {E : XK} {σd : List Sl} {N T : Type} {eN : N → List Sl} {eT : T → List Sl} {ss : List Stmt} {pos : Pos}
abbrev kDB (K : PySem.W.Frag) (eN : N → List Sl) (eT : T → List Sl) (Dn : Ends) : Fl N T → Wd → Hp → Store → Prop := fun f W' H' st' => match f with
  | .next s => ∀ σ', Slots K W' H' (eN s) σ' → Dn.nx σ' H'
  | .ret d => ∀ v, Rep K W' H' v d → Dn.rt v H'
  | .brk t => ∀ σ', Slots K W' H' (eT t) σ' → Dn.bk σ' H'
  | .cnt t => ∀ σ', Slots K W' H' (eT t) σ' → Dn.ct σ' H'
/-- an expression first, the rest behind it -/
theorem After.stmt {α β : Type} {W : Wd} {H : Hp} {st : Store} {σ : St} {m : M α} {f : α → M β} {k : β → Wd → Hp → Store → Prop} (hs : Slots K W H σd σ) (hh : Holds K W H st) (h : After K W H E ((m >>= f) st) k) :
    After K W H E (m st) fun x W' H' st' => Ext W W' H H' ∧ Holds K W' H' st' ∧ Slots K W' H' σd σ ∧ After K W' H' E (f x st') k :=
  After.next hs hh h
theorem db_nil {s : N} (h : Wk (eN s) σd) : DB X E σd [] eN eT (pure (.next s)) :=
  ⟨pss_imp pss_nil fun Dn σ H ⟨W, st, hh, hs, h1⟩ => After.pure' h1 hh σ (hs.wk h)⟩
theorem db_ret {e : Expr} {me : M D} (he : DE X (fun _ => E) σd e me) : DB X E σd (.Return (some e) pos :: ss) eN eT (me >>= fun d => pure (.ret d)) :=
  ⟨pss_imp (pss_cons (ps_ret he.pe) pss_never) fun Dn σ H ⟨W, st, hh, hs, h⟩ =>
    ⟨W, st, hh, hs, (After.stmt hs hh h).mono fun d W1 H1 st1 _ _ _ ⟨e1, hh1, hs1, h1⟩ v r => After.pure' h1 hh1 v r⟩⟩
theorem db_retN : DB X E σd (.Return none pos :: ss) eN eT (pure (.ret .non)) :=
  ⟨pss_imp (pss_cons ps_retN pss_never) fun Dn σ H ⟨W, st, hh, hs, h⟩ => After.pure' h hh .non rfl⟩
theorem db_brk {t : T} (h : Wk (eT t) σd) : DB X E σd (.Break pos :: ss) eN eT (pure (.brk t)) :=
  ⟨pss_imp (pss_cons ps_break pss_never) fun Dn σ H ⟨W, st, hh, hs, h1⟩ => After.pure' h1 hh σ (hs.wk h)⟩
theorem db_cnt {t : T} (h : Wk (eT t) σd) : DB X E σd (.Continue pos :: ss) eN eT (pure (.cnt t)) :=
  ⟨pss_imp (pss_cons ps_continue pss_never) fun Dn σ H ⟨W, st, hh, hs, h1⟩ => After.pure' h1 hh σ (hs.wk h)⟩
theorem db_pass {m : M (Fl N T)} (hr : DB X E σd ss eN eT m) : DB X E σd (.Pass pos :: ss) eN eT m := ⟨pss_imp (pss_cons ps_pass hr.pss) fun Dn σ H h => h⟩
/-- what stands behind is told of less -/
theorem db_wk {τd : List Sl} {m : M (Fl N T)} (h : Wk τd σd) (hr : DB X E τd ss eN eT m) : DB X E σd ss eN eT m :=
  ⟨pss_imp hr.pss fun Dn σ H ⟨W, st, hh, hs, h1⟩ => ⟨W, st, hh, hs.wk h, h1⟩⟩
/-- x = e -/
theorem db_set {e : Expr} {x : Str} {p' : Pos} {me : M D} {mr : D → M (Fl N T)} (i : Nat) (he : DE X (fun _ => E) σd e me) (hN : X.N.Nodup) (hi : X.N[i]? = some x) (hx : Loc X.env.scope x) (hs : swapsWith e (some (.Name x p')) pos.line X.env = pure false) (hf : X.fn x = true ∨ X.env.scope.names.lookup x = some .local)
    (hr : ∀ d, DB X E (σd.set i (.val d)) ss eN eT (mr d)) : DB X E σd (.Assign [.Name x p'] e pos :: ss) eN eT (me >>= mr) :=
  ⟨pss_imp (pss_cons (ps_set (i := i) hN hi hx he.pe hs hf) (pss_ex fun d => (hr d).pss)) fun Dn σ H ⟨W, st, hh, hs, h⟩ =>
    ⟨W, st, hh, hs, (After.stmt hs hh h).mono fun d W1 H1 st1 _ _ _ ⟨e1, hh1, hs1, h1⟩ v r => ⟨d, W1, st1, hh1, hs1.put i r, h1⟩⟩⟩
/-- e -/
theorem db_expr {e : Expr} {me : M D} {mr : M (Fl N T)} (he : DE X (fun _ => E) σd e me) (hs : swapsWith e none pos.line X.env = pure false) (hr : DB X E σd ss eN eT mr) : DB X E σd (.Expr e pos :: ss) eN eT (me >>= fun _ => mr) :=
  ⟨pss_imp (pss_cons (ps_expr he.pe hs) hr.pss) fun Dn σ H ⟨W, st, hh, hs, h⟩ =>
    ⟨W, st, hh, hs, (After.stmt hs hh h).mono fun d W1 H1 st1 _ _ _ ⟨e1, hh1, hs1, h1⟩ v r => ⟨W1, st1, hh1, hs1, h1⟩⟩⟩
/-- if c: a else: b, both ways to one word, then the rest -/
def thenM {N' : Type} (f : Fl N' T) (k : N' → M (Fl N T)) : M (Fl N T) := match f with
  | .next s => k s
  | .ret d => pure (.ret d)
  | .brk t => pure (.brk t)
  | .cnt t => pure (.cnt t)
theorem db_if {N' : Type} {e' : N' → List Sl} {c : Expr} {a b : List Stmt} {mc : M Bool} {ma mb : M (Fl N' T)} {mr : N' → M (Fl N T)} (hc : DT X (fun _ => E) σd c mc) (ha : DB X E σd a e' eT ma) (hb : DB X E σd b e' eT mb)
    (hr : ∀ s, DB X E (e' s) ss eN eT (mr s)) : DB X E σd (.If c a b pos :: ss) eN eT (mc >>= fun t => (if t = true then ma else mb) >>= fun f => thenM f mr) := by
  refine ⟨pss_imp (pss_cons (ps_if hc.pt ha.pss hb.pss) (pss_ex fun s => (hr s).pss)) fun Dn σ H ⟨W, st, hh, hs, h⟩ => ?_⟩
  refine ⟨W, st, hh, hs, (After.stmt hs hh h).mono fun t W1 H1 st1 _ _ _ ⟨e1, hh1, hs1, h1⟩ => ?_⟩
  have key : ∀ mm : M (Fl N' T), After X.K W1 H1 E ((mm >>= fun f => thenM f mr) st1) (kDB X.K eN eT Dn) → After X.K W1 H1 E (mm st1) (kDB X.K e' eT { Dn with nx := fun σ H => ∃ s, tDB X.K (e' s) E eN eT (mr s) Dn σ H }) := by
    intro mm hm
    refine (After.bind hm).mono fun f W2 H2 st2 _ e2 hh2 q => ?_
    cases f with
    | next s => exact fun σ' hs' => ⟨s, W2, st2, hh2, hs', q⟩
    | ret d => exact After.pure' (E := E) (k := kDB X.K eN eT Dn) q hh2
    | brk t => exact After.pure' (E := E) (k := kDB X.K eN eT Dn) q hh2
    | cnt t => exact After.pure' (E := E) (k := kDB X.K eN eT Dn) q hh2
  cases t with
  | true => exact ⟨W1, st1, hh1, hs1, key ma h1⟩
  | false => exact ⟨W1, st1, hh1, hs1, key mb h1⟩
/-- if c: a (that does not go on), then the rest -/
abbrev eE : Empty → List Sl := fun e => e.elim
theorem db_if1 {c : Expr} {a : List Stmt} {mc : M Bool} {ma : M (Fl Empty T)} {mr : M (Fl N T)} (hc : DT X (fun _ => E) σd c mc) (ha : DB X E σd a eE eT ma) (hr : DB X E σd ss eN eT mr) :
    DB X E σd (.If c a [] pos :: ss) eN eT (mc >>= fun t => if t = true then ma >>= fun f => thenM f Empty.elim else mr) := by
  refine ⟨pss_imp (pss_cons (ps_if hc.pt ha.pss pss_nil) hr.pss) fun Dn σ H ⟨W, st, hh, hs, h⟩ => ?_⟩
  refine ⟨W, st, hh, hs, (After.stmt hs hh h).mono fun t W1 H1 st1 _ _ _ ⟨e1, hh1, hs1, h1⟩ => ?_⟩
  cases t with
  | true =>
    refine ⟨W1, st1, hh1, hs1, ?_⟩
    have h1' : After X.K W1 H1 E ((ma >>= fun f => thenM f Empty.elim) st1) (kDB X.K eN eT Dn) := h1
    refine (After.bind h1').mono fun f W2 H2 st2 _ e2 hh2 q => ?_
    cases f with
    | next s => exact s.elim
    | ret d => exact After.pure' (E := E) (k := kDB X.K eN eT Dn) q hh2
    | brk t => exact After.pure' (E := E) (k := kDB X.K eN eT Dn) q hh2
    | cnt t => exact After.pure' (E := E) (k := kDB X.K eN eT Dn) q hh2
  | false => exact ⟨W1, st1, hh1, hs1, h1⟩
/-! ### loops -/
def loopM {P S : Type} (dec : D → Option P) (body : S → P → M (Fl S S)) : List D → S → M (Fl S Empty)
  | [], s => pure (.next s)
  | d :: ds, s => match dec d with
    | none => M.stuck
    | some p => body s p >>= fun f => match f with
      | .next s' => loopM dec body ds s'
      | .cnt s' => loopM dec body ds s'
      | .brk s' => pure (.next s')
      | .ret d => pure (.ret d)
def thenL {S : Type} (f : Fl S Empty) (k : S → M (Fl N T)) : M (Fl N T) := match f with
  | .next s => k s
  | .ret d => pure (.ret d)
  | .brk t => t.elim
  | .cnt t => t.elim
theorem db_for {P S : Type} {dec : D → Option P} {up : P → List Sl → List Sl} {g : TG} {ix : List Nat} {tg iter : Expr} {body : List Stmt} {mi : M (List D)} {es : S → List Sl} {mb : S → P → M (Fl S S)} {mr : S → M (Fl N T)} (s0 : S) (hw : Wk (es s0) σd) (hp : PassesOwn (model X.prog X.w) X.A X.env X.xe) (hc : X.calm = true)
    (hg : GOk X.K g ix dec up) (hi : DI X (fun _ => E) σd tg iter mi) (hpg : PG X tg g) (hf : ∀ x, foldedSetIterable iter X.env x = pure x)
    (hb : ∀ s p, DB X E (up p (es s)) body es es (mb s p)) (hr : ∀ s, DB X E (es s) ss eN eT (mr s)) :
    DB X E σd (.For tg iter body [] pos :: ss) eN eT (mi >>= fun ds => loopM dec mb ds s0 >>= fun f => thenL f mr) := by
  refine ⟨pss_imp (pss_cons (ps_for hp hc hi.pi hpg (pss_ex fun q : S × P => (hb q.1 q.2).pss) hf) (pss_ex fun s => (hr s).pss)) fun Dn σ H ⟨W, st, hh, hs, h⟩ => ?_⟩
  refine ⟨W, st, hh, hs, (After.stmt hs hh h).mono fun ds W1 H1 st1 _ _ _ ⟨e1, hh1, hs1, h1⟩ hz J hJ => ?_⟩
  -- behind i items
  refine ⟨fun i m σ2 H2 => m = ds.length - i ∧ i ≤ ds.length ∧ ∃ (W2 : Wd) (st2 : Store) (s : S), Ext W1 W2 H1 H2 ∧ Holds X.K W2 H2 st2 ∧ Slots X.K W2 H2 (es s) σ2 ∧
    After X.K W2 H2 E ((loopM dec mb (ds.drop i) s >>= fun f => thenL f mr) st2) (kDB X.K eN eT Dn), ?_, ?_⟩
  · refine ⟨ds.length, by omega, Nat.zero_le _, W1, st1, s0, Ext.refl, hh1, hs1.wk hw, ?_⟩
    rw [List.drop_zero]
    exact h1
  · rintro i m σ2 H2 ⟨rfl, hi, W2, st2, s, e2, hh2, hs2, a2⟩
    obtain ⟨js, jg⟩ := hJ W2 H2 st2 e2 hh2
    by_cases hlt : i < ds.length
    · refine .inr ?_
      obtain ⟨go, yld⟩ := jg i ds[i] (List.getElem?_eq_getElem hlt)
      refine ⟨go, fun σ3 H3 => ∃ m', m' < ds.length - i ∧ (m' = ds.length - (i + 1) ∧ i + 1 ≤ ds.length ∧ ∃ (W2 : Wd) (st2 : Store) (s : S), Ext W1 W2 H1 H3 ∧ Holds X.K W2 H3 st2 ∧ Slots X.K W2 H3 (es s) σ3 ∧
        After X.K W2 H3 E ((loopM dec mb (ds.drop (i + 1)) s >>= fun f => thenL f mr) st2) (kDB X.K eN eT Dn)), fun σ3 H3 hn => hn, fun x H3 hy => ?_⟩
      obtain ⟨W3, e3, hh3, rx⟩ := yld x H3 hy
      have e23 : Ext W1 W3 H1 H3 := e2.trans e3
      have a3 := a2.shift e3
      rw [List.drop_eq_getElem_cons hlt] at a3
      unfold loopM at a3
      cases hdec : dec ds[i] with
      | none => rw [hdec] at a3; exact a3.elim
      | some p =>
        rw [hdec] at a3
        refine hg.run W3 H3 st2 _ _ ds[i] x p _ hh3 (hs2.ext e3) rx hdec fun σ4 hs4 _ => ⟨(s, p), W3, st2, hh3, hs4, ?_⟩
        have a4 : After X.K W3 H3 E ((mb s p >>= fun f => (match f with
          | .next s' => loopM dec mb (List.drop (i + 1) ds) s'
          | .cnt s' => loopM dec mb (List.drop (i + 1) ds) s'
          | .brk s' => pure (.next s')
          | .ret d => pure (.ret d)) >>= fun f => thenL f mr) st2) (kDB X.K eN eT Dn) := by
          rw [← M.bind_assoc]
          exact a3
        refine (After.bind a4).mono fun f W5 H5 st5 _ e5 hh5 q => ?_
        have e25 : Ext W1 W5 H1 H5 := e23.trans e5
        cases f with
        | next s' => exact fun σ5 hs5 => ⟨ds.length - (i + 1), by omega, rfl, hlt, W5, st5, s', e25, hh5, hs5, q⟩
        | cnt s' => exact fun σ5 hs5 => ⟨ds.length - (i + 1), by omega, rfl, hlt, W5, st5, s', e25, hh5, hs5, q⟩
        | brk s' => exact fun σ5 hs5 => ⟨s', W5, st5, hh5, hs5, q⟩
        | ret d => exact fun v r => After.pure' (E := E) (k := kDB X.K eN eT Dn) q hh5 v r
    · have e : i = ds.length := by omega
      subst e
      refine .inl ⟨js, ?_⟩
      rw [List.drop_length] at a2
      exact ⟨s, W2, st2, hh2, hs2, a2⟩
end
end DL
/-! DL9: new lists as data or as cells; what is written. -/
namespace DL
open PySem PySem.Spec L2

section
variable {K : PySem.W.Frag} {W W1 W' : Wd} {H H1 H' : Hp} {st st1 : Store} {a p : Addr} {vs : List V} {ds xs : List D} {v : V} {d : D} {E : XK} {Q : VK} {o : HO}
theorem nodup_inj {α : Type} : ∀ {l : List α} {i j : Nat} {a : α}, l.Nodup → l[i]? = some a → l[j]? = some a → i = j
  | [], _, _, _, _, h, _ => by simp at h
  | x :: l, 0, 0, _, _, _, _ => rfl
  | x :: l, 0, j + 1, a, nd, h1, h2 => by
    have e : x = a := by simpa using h1
    subst e
    exact absurd (List.mem_of_getElem? (by simpa using h2)) (List.nodup_cons.mp nd).1
  | x :: l, i + 1, 0, a, nd, h1, h2 => by
    have e : x = a := by simpa using h2
    subst e
    exact absurd (List.mem_of_getElem? (by simpa using h1)) (List.nodup_cons.mp nd).1
  | x :: l, i + 1, j + 1, a, nd, h1, h2 => by
    rw [nodup_inj (List.nodup_cons.mp nd).2 (i := i) (j := j) (a := a) (by simpa using h1) (by simpa using h2)]
/-! ### a list just made -/
structure FinOk (K : PySem.W.Frag) (fin : List D → M D) : Prop where
  run : ∀ {W W1 : Wd} {H H1 : Hp} {st : Store} {p : Addr} {vs : List V} {ds : List D} {E : XK} {Q : VK}, Ext W W1 H H1 → H p = none → Holds K W1 H1 st → W1.U p → p ∉ W1.mu → H1 p = some (.lst vs) → ds.length ≤ 16777216 → Reps K W1 H1 vs ds →
    Fin K W H E (fin ds st) Q → Q (.ref p) H1
  big : ∀ (ds : List D) (st : Store) (a : D) (st' : Store), fin ds st = .ok a st' → ds.length ≤ 16777216
  quiet : ∀ (ds : List D) (st : Store) (x : Ex) (st' : Store), fin ds st ≠ .exc x st'
def fLst (ds : List D) : M D := if ds.length ≤ 16777216 then pure (.lst ds) else M.stuck
def newC (ds : List D) : M D := fun st => if ds.length ≤ 16777216 then .ok (.ref st.length) (st ++ [.lst ds]) else .stuck
theorem fLst_ok : FinOk K fLst := ⟨fun {W W1 H H1 st p vs ds E Q} e hp hh u nm h1 hz r h => by
  unfold fLst at h
  rw [if_pos hz] at h
  have h' : Fin K W H E (.ok (.lst ds) st) Q := h
  exact h' (W1.less p) H1 (e.less hp) (hh.less nm) _ ⟨p, vs, rfl, fun z => z.2 rfl, h1, hz, Reps.mono (W := W1) (W' := W1.less p) rfl (fun _ z => z.1) _ _ r⟩,
  (fun ds st a st' h => by
    unfold fLst at h
    split at h
    · assumption
    · cases h), (fun ds st x st' h => by
    unfold fLst at h
    split at h <;> cases h)⟩
mutual
theorem Rep.grow {t : List Addr} (hm : W'.mu = W.mu ++ t) (hu : ∀ a, W'.U a → W.U a) : ∀ (d : D) (v : V), Rep K W H v d → Rep K W' H v d
  | .non, _, h => h
  | .bl _, _, h => h
  | .int _, _, h => h
  | .str _, _, h => h
  | .lst xs, _, h => by
    obtain ⟨a, vs, rfl, nu, ha, hz, r⟩ := h
    exact ⟨a, vs, rfl, fun z => nu (hu _ z), ha, hz, Reps.grow hm hu xs vs r⟩
  | .tup xs, _, h => by
    obtain ⟨a, vs, rfl, h1, hz, r⟩ := h
    refine ⟨a, vs, rfl, ?_, hz, Reps.grow hm hu xs vs r⟩
    exact h1.imp (fun ⟨nu, ha⟩ => ⟨fun z => nu (hu _ z), ha⟩) id
  | .scr ns, _, h => by
    obtain ⟨a, rfl, h1⟩ := h
    exact ⟨a, rfl, h1.imp (fun ⟨nu, ha⟩ => ⟨fun z => nu (hu _ z), ha⟩) id⟩
  | .fn _, _, h => h
  | .adr _, _, h => h
  | .kt ks, _, h => by
    obtain ⟨a, rfl, nu, ha⟩ := h
    exact ⟨a, rfl, fun z => nu (hu _ z), ha⟩
  | .ref i, _, h => by
    obtain ⟨a, rfl, h⟩ := h
    exact ⟨a, rfl, by rw [hm, List.getElem?_append_left (List.getElem?_eq_some_iff.mp h).1]; exact h⟩
theorem Reps.grow {t : List Addr} (hm : W'.mu = W.mu ++ t) (hu : ∀ a, W'.U a → W.U a) : ∀ (ds : List D) (vs : List V), Reps K W H vs ds → Reps K W' H vs ds
  | [], _, h => h
  | d :: ds, _, h => by
    obtain ⟨v, r, rfl, h1, h2⟩ := h
    exact ⟨v, r, rfl, Rep.grow hm hu d v h1, Reps.grow hm hu ds r h2⟩
end
theorem FsOk.grow {κ : Type} {t : List Addr} (hm : W'.mu = W.mu ++ t) (hu : ∀ a, W'.U a → W.U a) : ∀ {fs : List (κ × D)} {vfs : List (κ × V)}, FsOk K W H vfs fs → FsOk K W' H vfs fs
  | [], _, h => h
  | (x, d) :: fs, _, h => by
    obtain ⟨v, r, rfl, h1, h2⟩ := h
    exact ⟨v, r, rfl, h1.grow hm hu, FsOk.grow hm hu h2⟩
/-- a new cell -/
def Wd.cell (W : Wd) (p : Addr) : Wd := ⟨W.mu ++ [p], W.U⟩
theorem Ext.cell (e : Ext W W1 H H1) (hp : H p = none) : Ext W (W1.cell p) H H1 where
  mu := by
    obtain ⟨t, q1, q2⟩ := e.mu
    refine ⟨t ++ [p], by show W1.mu ++ [p] = _; rw [q1, List.append_assoc], fun a ha => ?_⟩
    rcases List.mem_append.mp ha with ha | ha
    · exact q2 a ha
    · rw [List.mem_singleton.mp ha]; exact hp
  u0 := e.u0
  new := e.new
  keep := e.keep
  dom := e.dom
theorem Holds.cell' (hh : Holds K W H st) (hu : W.U p) (nm : p ∉ W.mu) {c : Cell} (hc : CellOk K (W.cell p) H p c) : Holds K (W.cell p) H (st ++ [c]) where
  len := by show (W.mu ++ [p]).length = _; rw [List.length_append, List.length_append, hh.len]; rfl
  nd := List.nodup_append.mpr ⟨hh.nd, List.nodup_cons.mpr ⟨by simp, List.nodup_nil⟩, fun a ha b hb e => by
    rw [List.mem_singleton.mp hb] at e
    exact nm (e ▸ ha)⟩
  dom := hh.dom
  muAt := fun a ha => by
    rcases List.mem_append.mp ha with ha | ha
    · exact hh.muAt a ha
    · rw [List.mem_singleton.mp ha]; exact hh.dom p hu
  cell := fun i c' a h1 h2 => by
    by_cases hi : i < st.length
    · rw [List.getElem?_append_left hi] at h1
      have h2' : (W.mu ++ [p])[i]? = some a := h2
      rw [List.getElem?_append_left (by rw [hh.len]; exact hi)] at h2'
      have c0 := hh.cell i c' a h1 h2'
      cases c' with
      | lst xs => obtain ⟨u1, vs, q1, hz, q2⟩ := c0; exact ⟨u1, vs, q1, hz, Reps.grow (W := W) (W' := W.cell p) (t := [p]) rfl (fun _ z => z) _ _ q2⟩
      | ins C fs => obtain ⟨u1, dx, vfs, q1, q2⟩ := c0; exact ⟨u1, dx, vfs, q1, FsOk.grow (W := W) (W' := W.cell p) (t := [p]) rfl (fun _ z => z) q2⟩
      | dic fs => obtain ⟨u1, vfs, q1, q2⟩ := c0; exact ⟨u1, vfs, q1, FsOk.grow (W := W) (W' := W.cell p) (t := [p]) rfl (fun _ z => z) q2⟩
      | lck fs => obtain ⟨u1, od, vfs, q1, q2⟩ := c0; exact ⟨u1, od, vfs, q1, FsOk.grow (W := W) (W' := W.cell p) (t := [p]) rfl (fun _ z => z) q2⟩
      | dead => trivial
      | tab x q =>
        obtain ⟨u1, e1, ps, h1, h2, h3⟩ := c0
        exact ⟨u1, e1, ps, h1, h2, h3⟩
      | tabG x q l m made =>
        refine tabG_mono (W := W) (W' := W.cell p) (fun z => z) (fun o z => z) (fun c p2 nu z => ⟨nu, z⟩) (fun j P z => ?_) c0
        show (W.mu ++ [p])[j]? = some P
        exact (List.getElem?_append_left (List.getElem?_eq_some_iff.mp z).1).trans z
    · have h2' : (W.mu ++ [p])[i]? = some a := h2
      have hl : i = st.length := by
        have := (List.getElem?_eq_some_iff.mp h1).1
        rw [List.length_append, List.length_singleton] at this
        omega
      subst hl
      rw [List.getElem?_append_right (Nat.le_refl _), Nat.sub_self] at h1
      rw [List.getElem?_append_right (by rw [hh.len]; exact Nat.le_refl _), hh.len, Nat.sub_self] at h2'
      cases h1
      cases h2'
      exact hc
theorem newC_ok : FinOk K newC := ⟨fun {W W1 H H1 st p vs ds E Q} e hp hh u nm h1 hz r h => by
  unfold newC at h
  rw [if_pos hz] at h
  have h' : Fin K W H E (.ok (.ref st.length) (st ++ [.lst ds])) Q := h
  refine h' (W1.cell p) H1 (e.cell hp) (hh.cell' u nm ⟨u, vs, h1, hz, Reps.grow (W := W1) (W' := W1.cell p) (t := [p]) rfl (fun _ z => z) _ _ r⟩) _ ⟨p, rfl, ?_⟩
  show (W1.mu ++ [p])[st.length]? = some p
  rw [List.getElem?_append_right (by rw [hh.len]; exact Nat.le_refl _), hh.len, Nat.sub_self]
  rfl, (fun ds st a st' h => by
    unfold newC at h
    split at h
    · assumption
    · cases h), (fun ds st x st' h => by
    unfold newC at h
    split at h <;> cases h)⟩
theorem FinOk.some {fin : List D → M D} (f : FinOk K fin) (h : Fin K W H E (fin ds st) Q) : ds.length ≤ 16777216 := by
  cases q : fin ds st with
  | ok a st' => exact f.big _ _ _ _ q
  | exc x st' => exact absurd q (f.quiet _ _ _ _)
  | stuck => rw [q] at h; exact h.elim
/-- .. when it is laid just now -/
theorem FinOk.new {fin : List D → M D} (f : FinOk K fin) (hh : Holds K W H st) (hp : H p = none) (hz : ds.length ≤ 16777216) (r : Reps K W H vs ds) (h : Fin K W H E (fin ds st) Q) : Q (.ref p) (upd H p (.lst vs)) :=
  f.run (Ext.with hp) hp (hh.with hp) (.inr rfl) (fun m => hh.muDom p hp m) upd_same hz (r.ext (Ext.with hp)) h
/-! ### a cell is written -/
theorem Ext.wr (hu : W.U a) (hm : a ∈ W.mu) (ha : H a = some o) {o' : HO} : Ext W W H (upd H a o') where
  mu := ⟨[], by simp, by simp⟩
  u0 := fun _ _ z _ _ => z
  new := fun _ z => .inl z
  keep := fun b u hb q => by rw [upd_ne (a := a) (b := b) fun e => by subst e; exact hb hu hm]; exact q
  dom := fun b u q => by
    by_cases e : b = a
    · exact ⟨o', by rw [e]; exact upd_same⟩
    · exact ⟨u, by rw [upd_ne e]; exact q⟩
theorem Holds.wr (hh : Holds K W H st) {i : Nat} (hu : W.U a) (hi : W.mu[i]? = some a) (ha : H a = some o) {o' : HO} {c : Cell} (hc : CellOk K W (upd H a o') a c) : Holds K W (upd H a o') (st.set i c) where
  len := by rw [List.length_set]; exact hh.len
  nd := hh.nd
  dom := fun b h => by
    obtain ⟨u, q⟩ := hh.dom b h
    exact (Ext.wr (o' := o') hu (List.mem_of_getElem? hi) ha).dom b u q
  muAt := fun b h => by
    obtain ⟨u, q⟩ := hh.muAt b h
    exact (Ext.wr (o' := o') hu (List.mem_of_getElem? hi) ha).dom b u q
  cell := fun j c' b h1 h2 => by
    by_cases e : j = i
    · subst e
      rw [hi] at h2
      cases h2
      rw [List.getElem?_set_self (by rw [← hh.len]; exact (List.getElem?_eq_some_iff.mp hi).1)] at h1
      cases h1
      exact hc
    · rw [List.getElem?_set_ne (Ne.symm e)] at h1
      have ne : b ≠ a := fun z => by
        subst z
        exact e (nodup_inj hh.nd h2 hi)
      have c0 := hh.cell j c' b h1 h2
      cases c' with
      | lst xs => obtain ⟨u1, vs, q1, hz, q2⟩ := c0; exact ⟨u1, vs, by rw [upd_ne ne]; exact q1, hz, q2.upd hu⟩
      | ins C fs => obtain ⟨u1, dx, vfs, q1, q2⟩ := c0; exact ⟨u1, dx, vfs, by rw [upd_ne ne]; exact q1, FsOk.upd hu q2⟩
      | dic fs => obtain ⟨u1, vfs, q1, q2⟩ := c0; exact ⟨u1, vfs, by rw [upd_ne ne]; exact q1, FsOk.upd hu q2⟩
      | lck fs => obtain ⟨u1, od, vfs, q1, q2⟩ := c0; exact ⟨u1, od, vfs, by rw [upd_ne ne]; exact q1, FsOk.upd hu q2⟩
      | dead => trivial
      | tab x q =>
        obtain ⟨u1, e1, ps, h1, h2, h3⟩ := c0
        exact ⟨u1, e1, ps, by rw [upd_ne ne]; exact h1, h2, fun pos cv hc => let ⟨c, q1, q2, q3⟩ := h3 pos cv hc; ⟨c, q1, q2, by rw [upd_ne (a := a) (b := c) fun e => q2 (e ▸ hu)]; exact q3⟩⟩
      | tabG x q l m made => exact tabG_mono (fun z => z) (fun o z => by rw [upd_ne ne]; exact z) (fun c p2 nu z => ⟨nu, by rw [upd_ne (a := a) (b := c) fun e => nu (e ▸ hu)]; exact z⟩) (fun _ _ z => z) c0
/-- a cell becomes a datum -/
theorem Ext.frz (hm : a ∈ W.mu) : Ext W (W.less a) H H where
  mu := ⟨[], by simp [Wd.less], by simp⟩
  u0 := fun b _ z nm _ => ⟨z, fun e => nm (e ▸ hm)⟩
  new := fun _ z => .inl z.1
  keep := fun _ _ _ q => q
  dom := fun _ u q => ⟨u, q⟩
theorem Holds.frz (hh : Holds K W H st) {i : Nat} (hi : W.mu[i]? = some a) : Holds K (W.less a) H (st.set i .dead) where
  len := by rw [List.length_set]; exact hh.len
  nd := hh.nd
  dom := fun b h => hh.dom b h.1
  muAt := hh.muAt
  cell := fun j c' b h1 h2 => by
    by_cases e : j = i
    · subst e
      have hi' : W.mu[j]? = some b := h2
      rw [List.getElem?_set_self (by rw [← hh.len]; exact (List.getElem?_eq_some_iff.mp hi).1)] at h1
      cases h1
      trivial
    · rw [List.getElem?_set_ne (Ne.symm e)] at h1
      have ne : b ≠ a := fun z => by
        subst z
        exact e (nodup_inj hh.nd h2 hi)
      have c0 := hh.cell j c' b h1 h2
      cases c' with
      | lst xs => obtain ⟨u1, vs, q1, hz, q2⟩ := c0; exact ⟨⟨u1, ne⟩, vs, q1, hz, Reps.mono (W := W) (W' := W.less a) rfl (fun _ z => z.1) _ _ q2⟩
      | ins C fs => obtain ⟨u1, dx, vfs, q1, q2⟩ := c0; exact ⟨⟨u1, ne⟩, dx, vfs, q1, FsOk.mono (W := W) (W' := W.less a) rfl (fun _ z => z.1) q2⟩
      | dic fs => obtain ⟨u1, vfs, q1, q2⟩ := c0; exact ⟨⟨u1, ne⟩, vfs, q1, FsOk.mono (W := W) (W' := W.less a) rfl (fun _ z => z.1) q2⟩
      | lck fs => obtain ⟨u1, od, vfs, q1, q2⟩ := c0; exact ⟨fun z => u1 z.1, od, vfs, q1, FsOk.mono (W := W) (W' := W.less a) rfl (fun _ z => z.1) q2⟩
      | dead => trivial
      | tab x q =>
        obtain ⟨u1, e1, ps, h1, h2, h3⟩ := c0
        exact ⟨⟨u1, ne⟩, e1, ps, h1, h2, fun pos cv hc => let ⟨c, q1, q2, q3⟩ := h3 pos cv hc; ⟨c, q1, fun z => q2 z.1, q3⟩⟩
      | tabG x q l m made => exact tabG_mono (fun z => ⟨z, ne⟩) (fun o z => z) (fun c p2 nu z => ⟨fun y => nu y.1, z⟩) (fun _ _ z => z) c0
/-- a cell's list read; a cell written -/
def rdC (k : Nat) : M (List D) := fun st => match st[k]? with
  | some (.lst xs) => .ok xs st
  | _ => .stuck
def wrC (k : Nat) (c : Cell) : M Unit := fun st => .ok () (st.set k c)
theorem rdC_ok {k : Nat} (q : st[k]? = some (.lst xs)) : rdC k st = .ok xs st := by
  unfold rdC
  rw [q]
theorem rdC_cases (k : Nat) (st : Store) : (∃ xs, st[k]? = some (.lst xs) ∧ rdC k st = .ok xs st) ∨ rdC k st = .stuck := by
  unfold rdC
  cases e : st[k]? with
  | none => exact .inr rfl
  | some c =>
    cases c with
    | lst xs => exact .inl ⟨xs, rfl, rfl⟩
    | _ => exact .inr rfl
/-- the cell as it is now, for good -/
def frz : D → M D
  | .ref k => rdC k >>= fun xs => wrC k .dead >>= fun _ => pure (.lst xs)
  | d => pure d
theorem frz_run {α : Type} {f : D → M α} {k : α → Wd → Hp → Store → Prop} (hh : Holds K W H st) (r : Rep K W H v d) (h : After K W H E ((frz d >>= f) st) k) : ∃ W' st' d', Ext W W' H H ∧ Holds K W' H st' ∧ Rep K W' H v d' ∧ After K W' H E (f d' st') k := by
  cases d with
  | ref i =>
    have h' : After K W H E (((rdC i >>= fun xs => wrC i .dead >>= fun _ => pure (.lst xs)) >>= f) st) k := h
    rw [M.bind_assoc] at h'
    rcases rdC_cases i st with ⟨xs, q, q2⟩ | q
    · rw [bind_ok q2] at h'
      have h2' : After K W H E (f (.lst xs) (st.set i .dead)) k := h'
      obtain ⟨a, rfl, ha⟩ := r
      obtain ⟨u, vs, h1, hz, h2⟩ := hh.cell i _ a q ha
      exact ⟨W.less a, st.set i .dead, .lst xs, Ext.frz (List.mem_of_getElem? ha), hh.frz ha, ⟨a, vs, rfl, fun z => z.2 rfl, h1, hz, Reps.mono (W := W) (W' := W.less a) rfl (fun _ z => z.1) _ _ h2⟩, h2'.shift (Ext.frz (List.mem_of_getElem? ha))⟩
    · rw [bind_stuck q] at h'
      exact h'.elim
  | _ => exact ⟨W, st, _, Ext.refl, hh, r, h⟩
end
section
variable {X : Cx} {E : St → XK} {σd : List Sl} {a b : Expr} {ma mb : M D} {pos : Pos}
theorem de_frz {e : Expr} (ha : DE X E σd e ma) : DE X E σd e (ma >>= frz) :=
  ⟨pe_imp ha.pe fun σ H Q ⟨W, st, hh, hs, h⟩ => tD_run hh hs h fun d v W1 H1 st1 e1 hh1 hs1 r1 (h1 : Fin X.K W1 H1 (E σ) (frz d st1) Q) => by
    have h1' : After X.K W1 H1 (E σ) ((frz d >>= pure) st1) (fun d W' H' _ => ∀ v, Rep X.K W' H' v d → Q v H') := by rw [M.bind_pure]; exact h1
    obtain ⟨W2, st2, d2, e2, hh2, r2, h2⟩ := frz_run hh1 r1 h1'
    exact After.pure' h2 hh2 v r2⟩
theorem de_lstF {es : List Expr} {m : M (List D)} {fin : List D → M D} (hf : FinOk X.K fin) (h : DA X E σd es m) : DE X E σd (.List es pos) (m >>= fin) :=
  ⟨pe_imp (pe_lst h.pa) fun σ H Q ⟨W, st, hh, hs, h⟩ => ⟨W, st, hh, hs, (After.next hs hh h).mono fun ds W1 H1 st1 _ _ _ ⟨e1, hh1, hs1, h1⟩ vs r1 => by
    have hz := hf.some h1
    exact ⟨by rw [r1.length, sizeLine_eq]; exact hz, fun p hp => hf.new hh1 hp hz r1 h1⟩⟩⟩
/-! ### x[i] = v, x.append(v) -/
def setC : D → D → D → M Unit
  | .ref k, .int i, v => rdC k >>= fun xs => match ixN xs.length i with | some j => wrC k (.lst (xs.set j v)) | none => M.stuck
  | _, _, _ => M.stuck
theorem ps_set_run {K : PySem.W.Frag} {W : Wd} {H : Hp} {st : Store} {o i v : V} {x y d : D} {E : XK} {k : Unit → Wd → Hp → Store → Prop} (hh : Holds K W H st) (ro : Rep K W H o x) (ri : Rep K W H i y) (rv : Rep K W H v d) (h : After K W H E (setC x y d st) k) :
    rSetL o i v H fun H' => ∃ st', Ext W W H H' ∧ Holds K W H' st' ∧ k () W H' st' := by
  cases x with
  | ref n =>
    cases y with
    | int z =>
      have h' : After K W H E ((rdC n >>= fun xs => match ixN xs.length z with | some j => wrC n (.lst (xs.set j d)) | none => M.stuck) st) k := h
      rcases rdC_cases n st with ⟨xs, q, q2⟩ | q
      · rw [bind_ok q2] at h'
        cases q2 : ixN xs.length z with
        | none => rw [q2] at h'; exact h'.elim
        | some j =>
          rw [q2] at h'
          have h2 : After K W H E (.ok () (st.set n (.lst (xs.set j d))) : R Unit) k := h'
          obtain ⟨a, rfl, ha⟩ := ro
          have ri' : i = .int z := ri
          subst ri'
          obtain ⟨u, vs, h1, hz, r⟩ := hh.cell n _ a q ha
          have hw := hh.wr (o' := .lst (vs.set j v)) (c := .lst (xs.set j d)) u ha h1 ⟨u, _, upd_same, by rw [List.length_set]; exact hz, (r.set j rv).upd u⟩
          exact ⟨a, vs, z, j, rfl, rfl, h1, by rw [r.length]; exact q2, _, Ext.wr u (List.mem_of_getElem? ha) h1, hw, h2 W _ (Ext.wr u (List.mem_of_getElem? ha) h1) hw⟩
      · rw [bind_stuck q] at h'
        exact h'.elim
    | _ => exact h.elim
  | _ => cases y <;> exact h.elim
def appC : D → D → M D
  | .ref k, v => rdC k >>= fun xs => if xs.length < 16777216 then wrC k (.lst (xs ++ [v])) >>= fun _ => pure .non else M.stuck
  | _, _ => M.stuck
theorem app_run {K : PySem.W.Frag} {W : Wd} {H : Hp} {st : Store} {o v : V} {x d : D} {E : XK} {Q : VK} (hh : Holds K W H st) (ro : Rep K W H o x) (rv : Rep K W H v d) (h : Fin K W H E (appC x d st) Q) : rAppend o [v] H Q := by
  cases x with
  | ref n =>
    have h' : Fin K W H E ((rdC n >>= fun xs => if xs.length < 16777216 then wrC n (.lst (xs ++ [d])) >>= fun _ => pure .non else M.stuck) st) Q := h
    rcases rdC_cases n st with ⟨xs, q, q2⟩ | q
    · rw [bind_ok q2] at h'
      by_cases hz : xs.length < 16777216
      · rw [if_pos hz] at h'
        have h2 : Fin K W H E (.ok .non (st.set n (.lst (xs ++ [d]))) : R D) Q := h'
        obtain ⟨a, rfl, ha⟩ := ro
        obtain ⟨u, vs, h1, hz', r⟩ := hh.cell n _ a q ha
        have hw := hh.wr (o' := .lst (vs ++ [v])) (c := .lst (xs ++ [d])) u ha h1 ⟨u, _, upd_same, by rw [List.length_append, List.length_singleton]; omega, (r.append (.cons rv .nil)).upd u⟩
        exact ⟨a, vs, v, rfl, rfl, h1, by rw [r.length, sizeLine_eq]; exact hz, h2 W _ (Ext.wr u (List.mem_of_getElem? ha) h1) hw _ rfl⟩
      · rw [if_neg hz] at h'
        exact h'.elim
    · rw [bind_stuck q] at h'
      exact h'.elim
  | _ => exact h.elim
theorem tyV_ref {K : PySem.W.Frag} {W : Wd} {H : Hp} {st : Store} {v : V} {k : Nat} {xs : List D} (hh : Holds K W H st) (r : Rep K W H v (.ref k)) (q : st[k]? = some (.lst xs)) : tyV K "list" v H := by
  obtain ⟨a, rfl, ha⟩ := r
  obtain ⟨u, vs, h1, hz, r⟩ := hh.cell k _ a q ha
  exact .inl ⟨rfl, vs, SqL.of h1⟩
/-- the cell is a list -/
def isC : D → M Unit
  | .ref k => rdC k >>= fun _ => pure ()
  | _ => M.stuck
theorem de_append {o e : Expr} {mo me : M D} {apos cpos : Pos} (ho : DE X E σd o mo) (he : DE X E σd e me) (hs : starEach [e] X.env = [(false, eval e X.env)])
    (hbase : attributeBase o "append" X.env (eval o X.env) = eval o X.env)
    (hfew : ((backTo cpos (starEach [e] X.env)).all (fun x => !x.1) && (backToKw cpos (keywordEach [] X.env)).all (fun x => x.1.isSome)
      && decide (([e] : List Expr).length + ([] : List Keyword).length + (if ([] : List Keyword).isEmpty then 0 else 1) < 30)) = true)
    (hline : (apos.endLine == cpos.line) = true) : DE X E σd (.Call (.Attribute o "append" apos) [e] [] cpos) (mo >>= fun x => isC x >>= fun _ => me >>= fun v => appC x v) :=
  ⟨pe_imp (pe_bm PySem.F.plainAttrs_list PySem.F.slot_list_append PySem.F.type_list_append mt_append ho.pe (pa_cons he.pe pa_nil hs) hbase hfew hline (by rw [hs]; rfl) rfl) fun σ H Q ⟨W, st, hh, hs, h⟩ =>
    tD_run hh hs h fun d v W1 H1 st1 e1 hh1 hs1 r1 h1 => by
      cases d with
      | ref k =>
        have h1' : After X.K W1 H1 (E σ) (((rdC k >>= fun _ => pure ()) >>= fun _ => me >>= fun v => appC (.ref k) v) st1) (fun d W' H' _ => ∀ v, Rep X.K W' H' v d → Q v H') := h1
        rw [M.bind_assoc] at h1'
        rcases rdC_cases k st1 with ⟨xs, q, q2⟩ | q
        · rw [bind_ok q2, M.pure_bind] at h1'
          exact ⟨tyV_ref hh1 r1 q, tD_run hh1 hs1 h1' fun d2 v2 W2 H2 st2 e2 hh2 hs2 r2 h3 => app_run hh2 (r1.ext e2) r2 h3⟩
        · rw [bind_stuck q] at h1'
          exact h1'.elim
      | _ => exact h1.elim⟩
end
section
variable {X : Cx} {E : XK} {σd : List Sl} {N T : Type} {eN : N → List Sl} {eT : T → List Sl} {ss : List Stmt} {pos : Pos}
/-- o[i] = e -/
theorem db_setIx {o i e : Expr} {mo mi me : M D} {mr : M (Fl N T)} {p' : Pos} (he : DE X (fun _ => E) σd e me) (ho : DE X (fun _ => E) σd o mo) (hi : DE X (fun _ => E) σd i mi)
    (hs : swapsWithSole [.Subscript o i p'] e pos.line X.env = pure false) (hw : swappedStores [.Subscript o i p'] e X.env = pure none) (h1 : (assignEach [.Subscript o i p'] X.env).map (·.2) = [assign (.Subscript o i p') X.env])
    (ha : ∀ v, assign (.Subscript o i p') X.env v = (do
      let ov ← holding [v] (eval o X.env)
      let iv ← holding [v, ov] (eval i X.env)
      standAt p'
      holding [v, ov, iv] (setItem ov iv v)
      release [v, ov, iv] []))
    (hr : DB X E σd ss eN eT mr) : DB X E σd (.Assign [.Subscript o i p'] e pos :: ss) eN eT (me >>= fun v => mo >>= fun x => mi >>= fun y => setC x y v >>= fun _ => mr) :=
  ⟨pss_imp (pss_cons (ps_asg he.pe (pg_sub ho.pe hi.pe set_list ha) hs hw h1) hr.pss) fun Dn σ H ⟨W, st, hh, hs, h⟩ =>
    tD_run hh hs h fun d v W1 H1 st1 e1 hh1 hs1 r1 h1 => tD_run hh1 hs1 h1 fun dx vx W2 H2 st2 e2 hh2 hs2 r2 h2 => tD_run hh2 hs2 h2 fun dy vy W3 H3 st3 e3 hh3 hs3 r3 h3 => by
      obtain ⟨p, xs, k, j, q1, q2, q3, q4, st', q6, q7, q8⟩ := ps_set_run hh3 (r2.ext e3) r3 ((r1.ext e2).ext e3) (After.next hs3 hh3 h3)
      exact ⟨p, xs, k, j, q1, q2, q3, q4, W3, st', q8.2.1, q8.2.2.1, q8.2.2.2⟩⟩
/-- a slot's cell becomes a datum, for good -/
theorem db_frz {d : D} {mr : D → M (Fl N T)} (i : Nat) (hi : σd[i]? = some (.val d)) (hr : ∀ d', DB X E (σd.set i (.val d')) ss eN eT (mr d')) : DB X E σd ss eN eT (frz d >>= mr) :=
  ⟨pss_imp (pss_ex fun d => (hr d).pss) fun Dn σ H ⟨W, st, hh, hs, h⟩ => by
    obtain ⟨v, q1, q2⟩ := hs.val i d hi
    obtain ⟨W2, st2, d2, e2, hh2, r2, h2⟩ := frz_run hh q2 h
    refine ⟨d2, W2, st2, hh2, ?_, h2⟩
    have := (hs.ext e2).put i r2
    have e : σ.set i (some v) = σ := by
      apply List.ext_getElem?
      intro j
      by_cases z : j = i
      · subst z
        rw [List.getElem?_set_self (List.getElem?_eq_some_iff.mp q1).1, q1]
      · rw [List.getElem?_set_ne (Ne.symm z)]
    rwa [e] at this⟩
end
/-! ### comprehensions whose list is taken by fin -/
section
variable {K : PySem.W.Frag} {X : Cx} {E : St → XK} {σd : List Sl}
theorem comp_readsF {P : Type} {dec : D → Option P} {up : P → List Sl → List Sl} {test : P → M Bool} {elt : P → M D} {fin : List D → M D} {g : TG} {ix vs : List Nat} (hf : FinOk K fin) (hg : GOk K g ix dec up) (hix : ∀ i ∈ ix, i ∈ vs) {ds : List D} {J : It} {W : Wd} {H : Hp} {st : Store} {σ : St} {Q : VK} {EE : XK}
    (hJ : Walks K J ds W H) (hz : ds.length ≤ 16777216) (hh : Holds K W H st) (hs : Slots K W H σd σ) (h : Fin K W H EE ((compM dec test elt ds >>= fin) st) Q) :
    ∀ Dl, H Dl = none → ∃ Wm : Nat → Nat → Hp → Prop, (∃ m, Wm 0 m (upd H Dl (.lst []))) ∧ ∀ i m H, Wm i m H →
      (J.stop i H ∧ Q (.ref Dl) H) ∨ (J.go i H ∧ ∃ Nx : Hp → Prop, (∀ H', Nx H' → ∃ m', m' < m ∧ Wm (i + 1) m' H') ∧ ∀ x H', J.yld i H x H' → g x (L2.wipe σ vs) H' fun σ2 H2 => L2.wipe σ2 vs = L2.wipe σ vs ∧
        (∃ p, tDT K (up p (wipeD σd vs)) E0' (test p) σ2 H2 fun b H3 =>
          if b = true then (∃ p, tD K (up p (wipeD σd vs)) E0' (elt p) σ2 H3 fun y H4 => ∃ acc, H4 Dl = some (.lst acc) ∧ acc.length < sizeLine ∧ Nx (upd H4 Dl (.lst (acc ++ [y])))) else Nx H3)) := by
  intro Dl hDl
  have nDl : ¬ W.U Dl := hh.fresh hDl
  -- the invariant: behind i items the list holds acc, the rest is to come
  refine ⟨fun i m H1 => m = ds.length - i ∧ i ≤ ds.length ∧ ∃ (W1 : Wd) (st1 : Store) (acc : List D) (ws : List V), Ext W W1 H H1 ∧ Holds K W1 H1 st1 ∧ W1.U Dl ∧ Dl ∉ W1.mu ∧ H1 Dl = some (.lst ws) ∧ Reps K W1 H1 ws acc ∧ acc.length ≤ i ∧
      Fin K W H EE ((compM dec test elt (ds.drop i) >>= fun r => fin (acc ++ r)) st1) Q, ?_, ?_⟩
  · refine ⟨ds.length, by omega, Nat.zero_le _, W.with Dl, st, [], [], Ext.with hDl, hh.with hDl, .inr rfl, hh.muDom Dl hDl, upd_same, Reps.nil, Nat.le_refl _, ?_⟩
    rw [List.drop_zero]
    exact h
  · rintro i m H1 ⟨rfl, hi, W1, st1, acc, ws, e1, hh1, u1, m1, d1, r1, l1, a1⟩
    obtain ⟨js, jg⟩ := hJ W1 H1 st1 e1 hh1
    have s1 := hs.ext e1
    by_cases hlt : i < ds.length
    · refine .inr ?_
      have hd : ds[i]? = some ds[i] := List.getElem?_eq_getElem hlt
      obtain ⟨go, yld⟩ := jg i ds[i] hd
      refine ⟨go, fun H' => ∃ m', m' < ds.length - i ∧ (m' = ds.length - (i + 1) ∧ i + 1 ≤ ds.length ∧ ∃ (W1 : Wd) (st1 : Store) (acc : List D) (ws : List V), Ext W W1 H H' ∧ Holds K W1 H' st1 ∧ W1.U Dl ∧ Dl ∉ W1.mu ∧ H' Dl = some (.lst ws) ∧ Reps K W1 H' ws acc ∧ acc.length ≤ i + 1 ∧
        Fin K W H EE ((compM dec test elt (ds.drop (i + 1)) >>= fun r => fin (acc ++ r)) st1) Q), fun H' hn => hn, fun x H2 hy => ?_⟩
      obtain ⟨W2, e2, hh2, rx⟩ := yld x H2 hy
      have e02 : Ext W W2 H H2 := e1.trans e2
      rw [List.drop_eq_getElem_cons hlt] at a1
      unfold compM at a1
      cases hdec : dec ds[i] with
      | none => rw [hdec] at a1; exact a1.elim
      | some p =>
        rw [hdec] at a1
        have s2 := s1.ext e2
        have a2 : Fin K W H EE ((nox (test p) >>= fun b => (if b = true then nox (elt p) >>= fun y => compM dec test elt (List.drop (i + 1) ds) >>= fun r => pure (y :: r) else compM dec test elt (List.drop (i + 1) ds)) >>= fun r => fin (acc ++ r)) st1) Q := by
          rw [← M.bind_assoc]
          exact a1
        refine hg.run W2 H2 st1 _ _ ds[i] x p _ hh2 (s2.wipe vs) rx hdec fun σ2 hs2 hw => ⟨by rw [hw vs hix, wipe_wipe], p, W2, st1, hh2, hs2, ?_⟩
        have b2 := (After.bind a2).shift e02
        refine (b2.nox (E0' σ2)).mono fun b W3 H3 st3 qt e3 hh3 q3 => ?_
        have e03 : Ext W W3 H H3 := e02.trans e3
        have keepD : ∀ {Wa Wb : Wd} {Ha Hb : Hp} {o : HO}, Dl ∉ Wa.mu → Wa.U Dl → Ha Dl = some o → Ext Wa Wb Ha Hb → Dl ∉ Wb.mu ∧ Wb.U Dl ∧ Hb Dl = some o := fun hm hu hd e => by
          refine ⟨fun z => ?_, e.u0 _ _ hu hm hd, e.keep _ _ (fun _ => hm) hd⟩
          rcases e.memMu z with z | z
          · exact hm z
          · rw [hd] at z; cases z
        obtain ⟨m2, u2, d2⟩ := keepD m1 u1 d1 e2
        obtain ⟨m3, u3, d3⟩ := keepD m2 u2 d2 e3
        have back : ∀ {α β : Type} {mm : M α} {ff : α → M β} {k : β → Wd → Hp → Store → Prop} {a : α} {st2 st3 : Store}, mm st2 = .ok a st3 → After K W H EE ((nox mm >>= ff) st2) k → After K W H EE (ff a st3) k := fun {α β mm ff k a st2 st3} q z => by
          have q' : nox mm st2 = .ok a st3 := by unfold nox; rw [q]
          rw [bind_ok q'] at z; exact z
        have a3 := back qt a2
        cases b with
        | true =>
          show ∃ p, tD K (up p (wipeD σd vs)) E0' (elt p) σ2 H3 _
          refine ⟨p, W3, st3, hh3, hs2.ext e3, ?_⟩
          have a4 : Fin K W H EE ((nox (elt p) >>= fun y => compM dec test elt (List.drop (i + 1) ds) >>= fun r => fin ((acc ++ [y]) ++ r)) st3) Q := by
            have e : (nox (elt p) >>= fun y => compM dec test elt (List.drop (i + 1) ds) >>= fun r => fin ((acc ++ [y]) ++ r)) = ((nox (elt p) >>= fun y => compM dec test elt (List.drop (i + 1) ds) >>= fun r => pure (y :: r)) >>= fun r => fin (acc ++ r)) := by
              simp only [M.bind_assoc, M.pure_bind, List.append_assoc, List.singleton_append]
            rw [e]
            exact a3
          refine (((After.bind a4).shift e03).nox (E0' σ2)).mono fun y W4 H4 st4 qy e4 hh4 _ v rv => ?_
          have a5 := back qy a4
          have e04 : Ext W W4 H H4 := e03.trans e4
          obtain ⟨m4, u4, d4⟩ := keepD m3 u3 d3 e4
          have r4 : Reps K W4 H4 ws acc := ((r1.ext e2).ext e3).ext e4
          have hl : ws.length < sizeLine := by rw [r4.length, sizeLine_eq]; omega
          refine ⟨ws, d4, hl, ds.length - (i + 1), by omega, rfl, hlt, W4, st4, acc ++ [y], ws ++ [v], ?_⟩
          have e45 : Ext W W4 H (upd H4 Dl (.lst (ws ++ [v]))) := e04.mine hDl
          exact ⟨e45, hh4.mine u4 m4, u4, m4, upd_same, (r4.append (.cons rv .nil)).upd u4, by rw [List.length_append, List.length_singleton]; omega, a5⟩
        | false =>
          show ∃ m', _
          exact ⟨ds.length - (i + 1), by omega, rfl, hlt, W3, st3, acc, ws, e03, hh3, u3, m3, d3, (r1.ext e2).ext e3, by omega, a3⟩
    · have e : i = ds.length := by omega
      subst e
      refine .inl ⟨js, ?_⟩
      rw [List.drop_length] at a1
      have a2 : Fin K W H EE (fin (acc ++ []) st1) Q := a1
      rw [List.append_nil] at a2
      exact hf.run e1 hDl hh1 u1 m1 d1 (Nat.le_trans l1 hz) r1 a2
end
section
variable {X : Cx} {E : St → XK} {σd : List Sl} {tg iter elt : Expr} {ifs : List Expr} {scope : Scope} {pos spos py : Pos} {mi : M (List D)} {own : List (Str × Nat)} {P : Type} {dec : D → Option P} {up : P → List Sl → List Sl} {test : P → M Bool} {me : P → M D} {fin : List D → M D} {g : TG} {ix : List Nat}
theorem lc_readsF {K : PySem.W.Frag} {vs : List Nat} (hf : FinOk K fin) (hg : GOk K g ix dec up) (hix : ∀ i ∈ ix, i ∈ vs) {σ : St} {H : Hp} {Q : VK}
    (h : tD K σd E (mi >>= fun ds => compM dec test me ds >>= fin) σ H Q) :
    tLc (tDI K σd E mi) g (fun σ H Q => ∃ p, tDT K (up p (wipeD σd vs)) E0' (test p) σ H Q) (fun σ H Q => ∃ p, tD K (up p (wipeD σd vs)) E0' (me p) σ H Q) vs σ H Q := by
  obtain ⟨W, st, hh, hs, h⟩ := h
  exact ⟨W, st, hh, hs, (After.next hs hh h).mono fun ds W1 H1 st1 _ _ _ ⟨e1, hh1, hs1, h1⟩ hz J hJ => comp_readsF hf hg hix hJ hz hh1 hs1 h1⟩
theorem de_lcF (hf : FinOk X.K fin) (hc : X.calm = true) (hN : X.N.Nodup) (hg : GOk X.K g ix dec up) (hix : ∀ i ∈ ix, i ∈ own.map (·.2)) (hi : DI X E σd tg iter mi) (ok : BlkOk X.N X.env.scope scope own)
    (hp : ∀ (s : Shared) (H : Hp) (C : Addr) (cl : List (Str × Addr)) (fp : List Addr), PG (X.blk s H scope (compEnvC scope cl C X.env) fp) tg g)
    (ht : ∀ (s : Shared) (H : Hp) (C : Addr) (cl : List (Str × Addr)) (fp : List Addr) (p : P), DTs (X.blk s H scope (compEnvC scope cl C X.env) fp) E0' (up p (wipeD σd (own.map (·.2)))) ifs (test p))
    (he : ∀ (s : Shared) (H : Hp) (C : Addr) (cl : List (Str × Addr)) (fp : List Addr) (p : P), DE (X.blk s H scope (compEnvC scope cl C X.env) fp) E0' (up p (wipeD σd (own.map (·.2)))) elt (me p))
    (hs : ∀ x, foldedSetIterable iter X.env x = pure x) :
    DE X E σd (.ListComp elt [⟨tg, iter, ifs, 0⟩] scope pos) (mi >>= fun ds => compM dec test me ds >>= fin) :=
  ⟨pe_imp (pe_lc (own := own) hc hN hi.pi ok hp (fun s H C cl fp => pts_ex fun p => (ht s H C cl fp p).pts) (fun s H C cl fp => pe_ex fun p => (he s H C cl fp p).pe) hs) fun σ H Q h => lc_readsF hf hg hix h⟩
/-- x = [..] on one line -/
theorem db_setLc {EK : XK} {Nn T : Type} {eN : Nn → List Sl} {eT : T → List Sl} {ss : List Stmt} {mr : D → M (Fl Nn T)} {y : Str} (i : Nat) (hf : FinOk X.K fin) (hc : X.calm = true) (hN : X.N.Nodup) (hy : X.N[i]? = some y) (hyl : X.env.scope.names.lookup y = some .local)
    (hsw : swapsWith (.ListComp elt [⟨tg, iter, ifs, 0⟩] scope pos) (some (.Name y py)) spos.line X.env = pure true) (hg : GOk X.K g ix dec up) (hix : ∀ i ∈ ix, i ∈ own.map (·.2)) (hi : DI X (fun _ => EK) σd tg iter mi) (ok : BlkOk X.N X.env.scope scope own)
    (hp : ∀ (s : Shared) (H : Hp) (C : Addr) (cl : List (Str × Addr)) (fp : List Addr), PG (X.blk s H scope (compEnvC scope cl C X.env) fp) tg g)
    (ht : ∀ (s : Shared) (H : Hp) (C : Addr) (cl : List (Str × Addr)) (fp : List Addr) (p : P), DTs (X.blk s H scope (compEnvC scope cl C X.env) fp) E0' (up p (wipeD σd (own.map (·.2)))) ifs (test p))
    (he : ∀ (s : Shared) (H : Hp) (C : Addr) (cl : List (Str × Addr)) (fp : List Addr) (p : P), DE (X.blk s H scope (compEnvC scope cl C X.env) fp) E0' (up p (wipeD σd (own.map (·.2)))) elt (me p))
    (hs : ∀ x, foldedSetIterable iter X.env x = pure x) (hr : ∀ d, DB X EK (σd.set i (.val d)) ss eN eT (mr d)) :
    DB X EK σd (.Assign [.Name y py] (.ListComp elt [⟨tg, iter, ifs, 0⟩] scope pos) spos :: ss) eN eT ((mi >>= fun ds => compM dec test me ds >>= fin) >>= mr) :=
  ⟨pss_imp (pss_cons (ps_setLc (i := i) (own := own) hc hN hy hyl hsw hi.pi ok hp (fun s H C cl fp => pts_ex fun p => (ht s H C cl fp p).pts) (fun s H C cl fp => pe_ex fun p => (he s H C cl fp p).pe) hs) (pss_ex fun d => (hr d).pss)) fun Dn σ H ⟨W, st, hh, hs, h⟩ =>
    lc_readsF (E := fun _ => EK) (Q := fun x H1 => gName i x σ H1 fun σ H => ∃ a, tDB X.K (σd.set i (Sl.val a)) EK eN eT (mr a) Dn σ H) hf hg hix ⟨W, st, hh, hs, (After.stmt hs hh h).mono fun d W1 H1 st1 _ _ _ ⟨e1, hh1, hs1, h1⟩ v r => ⟨d, W1, st1, hh1, hs1.put i r, h1⟩⟩⟩
/-! ### a < b < c -/
def chM (f g : D → D → M D) (ma mb mc : M D) : M D := ma >>= fun x => mb >>= fun y => f x y >>= asB >>= fun b => if b = true then mc >>= fun z => g y z else pure (.bl false)
theorem chain_reads {K : PySem.W.Frag} {r r' : R2} {f f' : D → D → M D} {ma mb mc : M D} (hf : RD K r f) (hf' : RD K r' f') {σ : St} {H : Hp} {Q : VK} (h : tD K σd E (chM f f' ma mb mc) σ H Q) : tChain r r' (tD K σd E ma) (tD K σd E mb) (tD K σd E mc) σ H Q := by
  obtain ⟨W, st, hh, hs, h⟩ := h
  refine tD_run hh hs h fun d v W1 H1 st1 e1 hh1 hs1 r1 h1 => tD_run hh1 hs1 h1 fun d2 v2 W2 H2 st2 e2 hh2 hs2 r2 h2 => ?_
  have h2' : Fin K W2 H2 (E σ) ((f d d2 >>= fun z => asB z >>= fun b => if b = true then mc >>= fun z => f' d2 z else pure (.bl false)) st2) Q := by
    rw [← M.bind_assoc]
    exact h2
  refine hf W2 H2 st2 v v2 d d2 _ (E σ) hh2 (r1.ext e2) r2 ((After.next hs2 hh2 h2').mono fun d3 W3 H3 st3 _ _ _ ⟨e3, hh3, hs3, h3⟩ v3 r3 => ?_)
  obtain ⟨k, e, h4⟩ := asB_run r3 h3
  refine ⟨k, e, ?_⟩
  cases k with
  | true => exact tD_run hh3 hs3 h4 fun d4 v4 W4 H4 st4 e4 hh4 hs4 r4 h5 => hf' W4 H4 st4 v2 v4 d2 d4 Q (E σ) hh4 ((r2.ext e3).ext e4) r4 h5
  | false => exact After.pure' h4 hh3 _ rfl
theorem de_chain {op op' : CmpOp} {r r' : R2} {f f' : D → D → M D} {a b c : Expr} {ma mb mc : M D} (ho : OpR X (compareOp op) r) (ho' : OpR X (compareOp op') r') (hf : RD X.K r f) (hf' : RD X.K r' f') (ha : DE X E σd a ma) (hb : DE X E σd b mb) (hc : DE X E σd c mc)
    (hm : lastMarks [op, op'] [b, c] = false) : DE X E σd (.Compare a [op, op'] [b, c] pos) (chM f f' ma mb mc) :=
  ⟨pe_imp (pe_chain ho ho' ha.pe hb.pe hc.pe hm) fun σ H Q h => chain_reads hf hf' h⟩
theorem dt_chain {op op' : CmpOp} {r r' : R2} {f f' : D → D → M D} {a b c : Expr} {ma mb mc : M D} (ho : OpR X (compareOp op) r) (ho' : OpR X (compareOp op') r') (hf : RD X.K r f) (hf' : RD X.K r' f') (ha : DE X E σd a ma) (hb : DE X E σd b mb) (hc : DE X E σd c mc)
    (hm : lastMarks [op, op'] [b, c] = false) : DT X E σd (.Compare a [op, op'] [b, c] pos) (chM f f' ma mb mc >>= asB) :=
  ⟨pt_imp (pt_chain ho ho' ha.pe hb.pe hc.pe hm) fun σ H Q ⟨W, st, hh, hs, h⟩ => chain_reads (E := E) hf hf' (tD_run hh hs h fun d v W1 H1 st1 e1 hh1 hs1 r1 h1 => asB_end hh1 r1 h1)⟩
end
end DL
/-! DL10: built-ins. -/
namespace DL
open PySem PySem.Spec L2

section
variable {K : PySem.W.Frag} {W W' : Wd} {H H' : Hp} {st : Store} {v : V} {d : D} {E : XK} {Q : VK} {ds : List D}
/-- a list, a tuple, a cell as it is now -/
def asL : D → M (List D)
  | .lst xs => pure xs
  | .tup xs => pure xs
  | .ref k => rdC k
  | _ => M.stuck
theorem asL_run {α : Type} {f : List D → M α} {k : α → Wd → Hp → Store → Prop} (hh : Holds K W H st) (r : Rep K W H v d) (h : After K W H E ((asL d >>= f) st) k) :
    ∃ a vs xs, v = .ref a ∧ (SqL K H a vs ∨ SqT K H a vs) ∧ xs.length ≤ 16777216 ∧ Reps K W H vs xs ∧ After K W H E (f xs st) k := by
  cases d with
  | lst xs =>
    obtain ⟨a, vs, rfl, nu, ha, hz, r⟩ := r
    exact ⟨a, vs, xs, rfl, .inl (SqL.of ha), hz, r, h⟩
  | tup xs =>
    obtain ⟨a, vs, rfl, ha, r'⟩ := Rep.tupSq r
    exact ⟨a, vs, xs, rfl, .inr ha, Rep.tupLen r, r', h⟩
  | ref n =>
    have h' : After K W H E ((rdC n >>= f) st) k := h
    rcases rdC_cases n st with ⟨xs, q, q2⟩ | q
    · rw [bind_ok q2] at h'
      obtain ⟨a, rfl, ha⟩ := r
      obtain ⟨u, vs, h1, hz, r'⟩ := hh.cell n _ a q ha
      exact ⟨a, vs, xs, rfl, .inl (SqL.of h1), hz, r', h'⟩
    · rw [bind_stuck q] at h'
      exact h'.elim
  | _ => exact h.elim
/-- .. of a list or a cell alone -/
def asLL : D → M (List D)
  | .lst xs => pure xs
  | .ref k => rdC k
  | _ => M.stuck
theorem asLL_run {α : Type} {f : List D → M α} {k : α → Wd → Hp → Store → Prop} (hh : Holds K W H st) (r : Rep K W H v d) (h : After K W H E ((asLL d >>= f) st) k) :
    ∃ a vs xs, v = .ref a ∧ SqL K H a vs ∧ xs.length ≤ 16777216 ∧ Reps K W H vs xs ∧ After K W H E (f xs st) k := by
  cases d with
  | lst xs =>
    obtain ⟨a, vs, rfl, nu, ha, hz, r⟩ := r
    exact ⟨a, vs, xs, rfl, SqL.of ha, hz, r, h⟩
  | ref n =>
    have h' : After K W H E ((rdC n >>= f) st) k := h
    rcases rdC_cases n st with ⟨xs, q, q2⟩ | q
    · rw [bind_ok q2] at h'
      obtain ⟨a, rfl, ha⟩ := r
      obtain ⟨u, vs, h1, hz, r'⟩ := hh.cell n _ a q ha
      exact ⟨a, vs, xs, rfl, SqL.of h1, hz, r', h'⟩
    · rw [bind_stuck q] at h'
      exact h'.elim
  | _ => exact h.elim
/-! ### len, list, tuple -/
def dLen : D → M D
  | .str cs => pure (.int cs.length)
  | .scr ns => pure (.int ns.length)
  | d => asL d >>= fun xs => pure (.int xs.length)
def rLen (K : PySem.W.Frag) : List V → Hp → VK → Prop := fun xs H Q => (∃ p ys, xs = [.ref p] ∧ (SqL K H p ys ∨ SqT K H p ys) ∧ Q (.int ys.length) H) ∨ ∃ z, xs = [.str z] ∧ z.length ≤ sizeLine ∧ Q (.int z.length) H
theorem cr_lenA {X : Cx} : CallR X (.builtin "len") (rLen X.K) := CallR.or call_len_seq call_len_str
theorem rc_len : RC1 K (rLen K) dLen := by
  intro W H st x dx Q E hh rx h
  have key : ∀ d, Rep K W H x d → Fin K W H E ((asL d >>= fun xs => pure (.int xs.length)) st) Q → rLen K [x] H Q := fun d r h => by
    obtain ⟨a, vs, xs, rfl, hq, hz, r', h'⟩ := asL_run hh r h
    exact .inl ⟨a, vs, rfl, hq, After.pure' h' hh _ (by rw [r'.length]; rfl)⟩
  cases dx with
  | str cs => exact .inr ⟨mkS cs, by rw [rx.1], by rw [mkS_len]; exact szLine (sOk_iff.mp rx.2).1, After.pure' h hh _ (by rw [mkS_len]; rfl)⟩
  | scr ns =>
    obtain ⟨a, rfl, ha⟩ := Rep.scrSq rx
    exact .inl ⟨a, _, rfl, .inl ha, After.pure' h hh _ (by rw [List.length_map]; rfl)⟩
  | lst xs => exact key (.lst xs) rx h
  | tup xs => exact key (.tup xs) rx h
  | ref k => exact key (.ref k) rx h
  | _ => exact h.elim
def dList (fin : List D → M D) (d : D) : M D := asL d >>= fin
theorem rc_list {fin : List D → M D} (hf : FinOk K fin) : RC1 K (fun xs H Q => ∃ p ys, xs = [.ref p] ∧ (SqL K H p ys ∨ SqT K H p ys) ∧ ∀ l, H l = none → Q (.ref l) (upd H l (.lst ys))) (dList fin) := by
  intro W H st x dx Q E hh rx h
  obtain ⟨a, vs, xs, rfl, hq, hz, r', h'⟩ := asL_run hh rx h
  exact ⟨a, vs, rfl, hq, fun l hl => hf.new hh hl hz r' h'⟩
def dTuple : D → M D
  | .tup xs => pure (.tup xs)
  | d => asLL d >>= fun xs => pure (.tup xs)
theorem rc_tuple : RC1 K (fun xs H Q => ∃ p ys, xs = [.ref p] ∧ ((SqL K H p ys ∧ ∀ l, H l = none → Q (.ref l) (upd H l (.tup ys))) ∨ (SqT K H p ys ∧ Q (.ref p) H))) dTuple := by
  intro W H st x dx Q E hh rx h
  have key : ∀ d, Rep K W H x d → Fin K W H E ((asLL d >>= fun xs => pure (.tup xs)) st) Q → ∃ p ys, [x] = [V.ref p] ∧ ((SqL K H p ys ∧ ∀ l, H l = none → Q (.ref l) (upd H l (.tup ys))) ∨ (SqT K H p ys ∧ Q (.ref p) H)) := fun d r h => by
    obtain ⟨a, vs, xs, rfl, hq, hz, r', h'⟩ := asLL_run hh r h
    exact ⟨a, vs, rfl, .inl ⟨hq, fun l hl => Fin.newT h' hh hl r' hz⟩⟩
  cases dx with
  | tup xs =>
    obtain ⟨a, vs, rfl, ha, r'⟩ := Rep.tupSq rx
    exact ⟨a, vs, rfl, .inr ⟨ha, After.pure' h hh _ rx⟩⟩
  | lst xs => exact key (.lst xs) rx h
  | ref k => exact key (.ref k) rx h
  | _ => exact h.elim
/-! ### all, any, sum -/
def blsOf : List D → Option (List Bool)
  | [] => some []
  | .bl b :: r => (blsOf r).map (b :: ·)
  | _ :: _ => none
def intsOf : List D → Option (List Int)
  | [] => some []
  | .int b :: r => (intsOf r).map (b :: ·)
  | _ :: _ => none
def strsOf : List D → Option (List (List Nat))
  | [] => some []
  | .str b :: r => (strsOf r).map (b :: ·)
  | _ :: _ => none
theorem blsOf_eq : ∀ {ds : List D} {bs : List Bool}, blsOf ds = some bs → ds = bs.map D.bl
  | [], _, h => by cases h; rfl
  | d :: r, bs, h => by
    cases d with
    | bl b =>
      have h' : (blsOf r).map (b :: ·) = some bs := h
      cases q : blsOf r with
      | none => rw [q] at h'; cases h'
      | some cs => rw [q] at h'; cases h'; rw [blsOf_eq q]; rfl
    | _ => cases h
theorem intsOf_eq : ∀ {ds : List D} {bs : List Int}, intsOf ds = some bs → ds = bs.map D.int
  | [], _, h => by cases h; rfl
  | d :: r, bs, h => by
    cases d with
    | int b =>
      have h' : (intsOf r).map (b :: ·) = some bs := h
      cases q : intsOf r with
      | none => rw [q] at h'; cases h'
      | some cs => rw [q] at h'; cases h'; rw [intsOf_eq q]; rfl
    | _ => cases h
theorem strsOf_eq : ∀ {ds : List D} {bs : List (List Nat)}, strsOf ds = some bs → ds = bs.map D.str
  | [], _, h => by cases h; rfl
  | d :: r, bs, h => by
    cases d with
    | str b =>
      have h' : (strsOf r).map (b :: ·) = some bs := h
      cases q : strsOf r with
      | none => rw [q] at h'; cases h'
      | some cs => rw [q] at h'; cases h'; rw [strsOf_eq q]; rfl
    | _ => cases h
@[simp] theorem blsOf_map (bs : List Bool) : blsOf (bs.map D.bl) = some bs := by
  induction bs with
  | nil => rfl
  | cons b bs ih => show (blsOf (bs.map D.bl)).map (b :: ·) = _; rw [ih]; rfl
@[simp] theorem intsOf_map (bs : List Int) : intsOf (bs.map D.int) = some bs := by
  induction bs with
  | nil => rfl
  | cons b bs ih => show (intsOf (bs.map D.int)).map (b :: ·) = _; rw [ih]; rfl
@[simp] theorem strsOf_map (bs : List (List Nat)) : strsOf (bs.map D.str) = some bs := by
  induction bs with
  | nil => rfl
  | cons b bs ih => show (strsOf (bs.map D.str)).map (b :: ·) = _; rw [ih]; rfl
def ofO {α : Type} : Option α → M α
  | some a => pure a
  | none => M.stuck
@[simp] theorem ofO_some {α : Type} (a : α) : ofO (some a) = (pure a : M α) := rfl
@[simp] theorem ofO_none {α : Type} : ofO (none : Option α) = M.stuck := rfl
theorem ofO_run {α β : Type} {o : Option α} {f : α → M β} {k : β → Wd → Hp → Store → Prop} (h : After K W H E ((ofO o >>= f) st) k) : ∃ a, o = some a ∧ After K W H E (f a st) k := by
  cases o with
  | some a => exact ⟨a, rfl, h⟩
  | none => exact h.elim
def dAll (d : D) : M D := asLL d >>= fun xs => ofO (blsOf xs) >>= fun bs => pure (.bl (bs.all id))
def dAny (d : D) : M D := asLL d >>= fun xs => ofO (blsOf xs) >>= fun bs => pure (.bl (bs.any id))
def dSum (d : D) : M D := asLL d >>= fun xs => ofO (intsOf xs) >>= fun bs => pure (.int bs.sum)
theorem rc_all : RC1 K (rAll K) dAll := by
  intro W H st x dx Q E hh rx h
  obtain ⟨a, vs, xs, rfl, hq, hz, r', h'⟩ := asLL_run hh rx h
  obtain ⟨bs, e, h''⟩ := ofO_run h'
  rw [blsOf_eq e] at r'
  rw [r'.bls] at hq
  exact ⟨a, bs, rfl, hq, After.pure' h'' hh _ rfl⟩
theorem rc_any : RC1 K (rAny K) dAny := by
  intro W H st x dx Q E hh rx h
  obtain ⟨a, vs, xs, rfl, hq, hz, r', h'⟩ := asLL_run hh rx h
  obtain ⟨bs, e, h''⟩ := ofO_run h'
  rw [blsOf_eq e] at r'
  rw [r'.bls] at hq
  exact ⟨a, bs, rfl, hq, After.pure' h'' hh _ rfl⟩
theorem rc_sum : RC1 K (rSum K) dSum := by
  intro W H st x dx Q E hh rx h
  obtain ⟨a, vs, xs, rfl, hq, hz, r', h'⟩ := asLL_run hh rx h
  obtain ⟨bs, e, h''⟩ := ofO_run h'
  rw [intsOf_eq e] at r'
  rw [r'.ints] at hq
  exact ⟨a, bs, rfl, hq, After.pure' h'' hh _ rfl⟩
/-! ### abs, int, str -/
def dAbs : D → M D
  | .int i => pure (.int (if i < 0 then -i else i))
  | _ => M.stuck
theorem rc_abs : RC1 K (fun xs H Q => ∃ i, xs = [.int i] ∧ Q (.int (if i < 0 then -i else i)) H) dAbs := by
  intro W H st x dx Q E hh rx h
  cases dx with
  | int i => have e : x = .int i := rx; subst e; exact ⟨i, rfl, After.pure' h hh _ rfl⟩
  | _ => exact h.elim
def dInt : D → M D
  | .int i => pure (.int i)
  | .bl b => pure (.int (if b then 1 else 0))
  | _ => M.stuck
theorem rc_int : RC1 K (fun xs H Q => (∃ i, xs = [.int i] ∧ Q (.int i) H) ∨ ∃ k, xs = [.bl k] ∧ Q (.int (if k then 1 else 0)) H) dInt := by
  intro W H st x dx Q E hh rx h
  cases dx with
  | int i => have e : x = .int i := rx; subst e; exact .inl ⟨i, rfl, After.pure' h hh _ rfl⟩
  | bl i => have e : x = .bl i := rx; subst e; exact .inr ⟨i, rfl, After.pure' h hh _ rfl⟩
  | _ => exact h.elim
/-! ### two arguments -/
def RC2 (K : PySem.W.Frag) (r : List V → Hp → VK → Prop) (f : D → D → M D) : Prop := ∀ (W : Wd) (H : Hp) (st : Store) (x y : V) (dx dy : D) (Q : VK) (E : XK), Holds K W H st → Rep K W H x dx → Rep K W H y dy → Fin K W H E (f dx dy st) Q → r [x, y] H Q
def dMax2 : D → D → M D
  | .int i, .int j => pure (.int (if j > i then j else i))
  | _, _ => M.stuck
def dMin2 : D → D → M D
  | .int i, .int j => pure (.int (if j < i then j else i))
  | _, _ => M.stuck
theorem rc_max2 : RC2 K (fun xs H Q => ∃ i j, xs = [.int i, .int j] ∧ Q (.int (if j > i then j else i)) H) dMax2 := by
  intro W H st x y dx dy Q E hh rx ry h
  cases dx with
  | int i =>
    cases dy with
    | int j => have e : x = .int i := rx; have e2 : y = .int j := ry; subst e e2; exact ⟨i, j, rfl, After.pure' h hh _ rfl⟩
    | _ => exact h.elim
  | _ => cases dy <;> exact h.elim
theorem rc_min2 : RC2 K (fun xs H Q => ∃ i j, xs = [.int i, .int j] ∧ Q (.int (if j < i then j else i)) H) dMin2 := by
  intro W H st x y dx dy Q E hh rx ry h
  cases dx with
  | int i =>
    cases dy with
    | int j => have e : x = .int i := rx; have e2 : y = .int j := ry; subst e e2; exact ⟨i, j, rfl, After.pure' h hh _ rfl⟩
    | _ => exact h.elim
  | _ => cases dy <;> exact h.elim
/-! ### isinstance, a built-in type -/
/-- the type's name of a datum -/
def tyD : D → Option String
  | .non => some "NoneType"
  | .bl _ => some "bool"
  | .int _ => some "int"
  | .str _ => some "str"
  | .lst _ => some "list"
  | .tup _ => some "tuple"
  | _ => none
theorem tyD_is {d : D} {t : String} (r : Rep K W H v d) (h : tyD d = some t) : TyX K H v (.type t) := by
  cases d with
  | non => cases h; have e : v = .non := r; subst e; exact .base .non
  | bl b => cases h; have e : v = .bl b := r; subst e; exact .base (.bl _)
  | int b => cases h; have e : v = .int b := r; subst e; exact .base (.int _)
  | str b => cases h; obtain ⟨e, _⟩ := r; subst e; exact .base (.str _)
  | lst xs => cases h; obtain ⟨a, vs, rfl, _, ha, _⟩ := r; exact .base (.lst ha)
  | tup xs =>
    cases h
    obtain ⟨a, vs, rfl, ha, _⟩ := Rep.tupSq r
    rcases ha with ha | ⟨o, its, n, h1, h2, _⟩
    · rcases ha with ha | ⟨o, ha⟩
      · exact .base (.tup ha)
      · exact .fTuple ha
    · exact .kTuple h1 h2
  | _ => cases h
/-- what isinstance says of the built-in types here -/
def isiB (T : String) : D → Option Bool
  | .non => kitB "NoneType" T
  | .bl _ => kitB "bool" T
  | .int _ => kitB "int" T
  | .str _ => kitB "str" T
  | .lst _ => kitB "list" T
  | .tup _ => kitB "tuple" T
  | _ => none
theorem isiB_ty {T : String} {d : D} {b : Bool} (h : isiB T d = some b) : ∃ t, tyD d = some t ∧ kitB t T = some b := by
  cases d with
  | non => exact ⟨_, rfl, h⟩
  | bl _ => exact ⟨_, rfl, h⟩
  | int _ => exact ⟨_, rfl, h⟩
  | str _ => exact ⟨_, rfl, h⟩
  | lst _ => exact ⟨_, rfl, h⟩
  | tup _ => exact ⟨_, rfl, h⟩
  | _ => cases h
inductive Ty where
  | int | str | bool | list | tuple
def Ty.nm : Ty → String
  | .int => "int" | .str => "str" | .bool => "bool" | .list => "list" | .tuple => "tuple"
def dIsi (T : Ty) : D → Option Bool
  | .non => some false
  | .bl _ => some (match T with | .int => true | .bool => true | _ => false)
  | .int _ => some (match T with | .int => true | _ => false)
  | .str _ => some (match T with | .str => true | _ => false)
  | .lst _ => some (match T with | .list => true | _ => false)
  | .tup _ => some (match T with | .tuple => true | _ => false)
  | _ => none
theorem dIsi_eq (T : Ty) (d : D) (b : Bool) (h : dIsi T d = some b) : isiB T.nm d = some b := by
  cases d with
  | non => cases h; cases T <;> (show kitB "NoneType" _ = _; decide +kernel)
  | bl _ => cases h; cases T <;> (show kitB "bool" _ = _; decide +kernel)
  | int _ => cases h; cases T <;> (show kitB "int" _ = _; decide +kernel)
  | str _ => cases h; cases T <;> (show kitB "str" _ = _; decide +kernel)
  | lst _ => cases h; cases T <;> (show kitB "list" _ = _; decide +kernel)
  | tup _ => cases h; cases T <;> (show kitB "tuple" _ = _; decide +kernel)
  | _ => cases h
def Ty.isL : Ty → Bool
  | .list => true
  | _ => false
/-- .. of a cell: a list -/
def mIsi (T : Ty) : D → M D
  | .ref k => rdC k >>= fun _ => pure (.bl T.isL)
  | d => ofO (dIsi T d) >>= fun b => pure (.bl b)
theorem isi_run {T : Ty} (hh : Holds K W H st) (r : Rep K W H v d) (h : Fin K W H E (mIsi T d st) Q) : rIsi K [v, .ty T.nm] H Q := by
  have key : ∀ d, Rep K W H v d → Fin K W H E ((ofO (dIsi T d) >>= fun b => pure (.bl b)) st) Q → rIsi K [v, .ty T.nm] H Q := fun d r h => by
    obtain ⟨b, e, h'⟩ := ofO_run h
    obtain ⟨t, e1, e2⟩ := isiB_ty (dIsi_eq T d b e)
    exact ⟨v, .ty T.nm, .type t, .type T.nm, b, rfl, .ty _, tyD_is r e1, kit_ty e2, After.pure' h' hh _ rfl⟩
  cases d with
  | ref k =>
    have h' : Fin K W H E ((rdC k >>= fun _ => pure (.bl T.isL)) st) Q := h
    rcases rdC_cases k st with ⟨xs, q, q2⟩ | q
    · rw [bind_ok q2] at h'
      obtain ⟨a, rfl, ha⟩ := r
      obtain ⟨u, vs, h1, hz, r'⟩ := hh.cell k _ a q ha
      refine ⟨_, .ty T.nm, .type "list", .type T.nm, _, rfl, .ty _, .base (.lst h1), kit_ty ?_, After.pure' h' hh _ rfl⟩
      cases T <;> decide +kernel
    · rw [bind_stuck q] at h'
      exact h'.elim
  | non => exact key _ r h
  | bl _ => exact key _ r h
  | int _ => exact key _ r h
  | str _ => exact key _ r h
  | lst _ => exact key _ r h
  | tup _ => exact key _ r h
  | scr _ => exact key _ r h
  | fn _ => exact key _ r h
  | adr _ => exact key _ r h
  | kt _ => exact key _ r h
end
section
variable {X : Cx} {E : St → XK} {σd : List Sl} {a b : Expr} {ma mb : M D} {pos p : Pos}
theorem de_b2 {r : List V → Hp → VK → Prop} {f : D → D → M D} {id : String} {x : Str} (hc : CallR X (.builtin id) r) (hf : RC2 X.K r f) (hg : Gl X x) (hm : X.mg x = none) (hv : bootBuiltins x = some (.builtin id)) (ha : DE X E σd a ma) (hb : DE X E σd b mb) (hn : x ≠ "__name__") (hdb : (x == ("__debug__" : Str)) = false)
    (he : starEach [a, b] X.env = [(false, eval a X.env), (false, eval b X.env)]) (he2 : starEach [b] X.env = [(false, eval b X.env)]) : DE X E σd (.Call (.Name x p) [a, b] [] pos) (ma >>= fun u => mb >>= fun w => f u w) :=
  ⟨pe_imp (pe_callB hc hg hm hv (pa_cons ha.pe (pa_cons hb.pe pa_nil he2) (by rw [he, he2])) hn hdb (by rw [he, he2]) (by rw [he2]; rfl)) fun σ H Q ⟨W, st, hh, hs, h⟩ => tD_run hh hs h fun d v W1 H1 st1 e1 hh1 hs1 r1 h1 => tD_run hh1 hs1 h1 fun d2 v2 W2 H2 st2 e2 hh2 hs2 r2 h2 => hf W2 H2 st2 v v2 d d2 Q (E σ) hh2 (r1.ext e2) r2 h2⟩
/-- isinstance(e, T) -/
theorem de_isi {T : Ty} {y : Str} {p2 : Pos} (hg : Gl X "isinstance") (hm : X.mg "isinstance" = none) (hgy : Gl X y) (hmy : X.mg y = none) (hvy : bootBuiltins y = some (.type T.nm)) (hny : y ≠ "__name__") (hdy : (y == ("__debug__" : Str)) = false) (ha : DE X E σd a ma)
    (he : starEach [a, .Name y p2] X.env = [(false, eval a X.env), (false, eval (.Name y p2) X.env)]) (he2 : starEach [.Name y p2] X.env = [(false, eval (.Name y p2) X.env)]) : DE X E σd (.Call (.Name "isinstance" p) [a, .Name y p2] [] pos) (ma >>= mIsi T) :=
  ⟨pe_imp (pe_callB call_isi hg hm (by rfl) (pa_cons ha.pe (pa_cons (pe_bltn hgy hmy hvy (v := .ty T.nm) rfl hny hdy) pa_nil he2) (by rw [he, he2])) (by decide) (by decide) (by rw [he, he2]) (by rw [he2]; rfl)) fun σ H Q ⟨W, st, hh, hs, h⟩ => tD_run hh hs h fun d v W1 H1 st1 e1 hh1 hs1 r1 h1 => isi_run hh1 r1 h1⟩
end
end DL
/-! DL11: defs, calls, errors. -/
namespace DL
open PySem PySem.Spec L2 PyProof.Rows

/-! ### what a def promises -/
def SpD (K : PySem.W.Frag) (n : Nat) (mf : List D → M D) : Sp := fun vs H Q E => vs.length = n ∧ ∃ (W : Wd) (st : Store) (ds : List D), Holds K W H st ∧ Reps K W H vs ds ∧ Fin K W H E (mf ds st) Q
structure CalD (P : Program) (w : World) (K : PySem.W.Frag) (mg : Str → Option Value) (base : Heap) (k : Nat) (x : Str) (n : Nat) (mf : List D → M D) : Prop where
  ex : ∃ (f : Addr) (fd : FuncData) (ps : List Str), FnOk P w K mg base (L2N.CX P w) k f fd ps (SpD K n mf) ∧ mg x = some (.ref f) ∧ PySem.W.keepIn K (.ref f) = true ∧ Binds K fd ps [] ∧ ps.length = n
theorem CalD.mono {P : Program} {w : World} {K : PySem.W.Frag} {mg : Str → Option Value} {base : Heap} {j k : Nat} {x : Str} {n : Nat} {mf : List D → M D} (c : CalD P w K mg base j x n mf) (h : j ≤ k) : CalD P w K mg base k x n mf := by
  obtain ⟨f, fd, ps, F, r⟩ := c.ex
  exact ⟨f, fd, ps, F.mono h, r⟩
/-- the same mirror by another word -/
theorem CalD.to {P : Program} {w : World} {K : PySem.W.Frag} {mg : Str → Option Value} {base : Heap} {k : Nat} {x : Str} {n : Nat} {mf mf' : List D → M D} (c : CalD P w K mg base k x n mf) (h : ∀ ds, ds.length = n → mf' ds = mf ds) : CalD P w K mg base k x n mf' := by
  obtain ⟨f, fd, ps, F, r⟩ := c.ex
  exact ⟨f, fd, ps, F.imp fun vs H Q E ⟨hl, W, st, ds, hh, hr, hq⟩ => ⟨hl, W, st, ds, hh, hr, by rw [← h ds (hr.length.symm.trans hl)]; exact hq⟩, r⟩
def startD (N : List Str) (ds : List D) : List Sl := ds.map .val ++ List.replicate (N.length - ds.length) .none
def retM {N : Type} : Fl N Empty → M D
  | .ret d => pure d
  | .next _ => pure .non
  | .brk t => t.elim
  | .cnt t => t.elim
theorem Slots.start {K : PySem.W.Frag} {W : Wd} {H : Hp} {N : List Str} {vs : List V} {ds : List D} (r : Reps K W H vs ds) : Slots K W H (startD N ds) (L2.start N vs) where
  len := by unfold L2.start startD; simp [r.length]
  val := fun i d h => by
    unfold startD at h
    by_cases hi : i < ds.length
    · rw [List.getElem?_append_left (by rw [List.length_map]; exact hi), List.getElem?_map] at h
      cases q : ds[i]? with
      | none => rw [q] at h; cases h
      | some d' =>
        rw [q] at h
        cases h
        obtain ⟨v, q1, q2⟩ := r.get q
        refine ⟨v, ?_, q2⟩
        unfold L2.start
        rw [List.getElem?_append_left (by rw [List.length_map, r.length]; exact hi), List.getElem?_map, q1]
        rfl
    · rw [List.getElem?_append_right (by rw [List.length_map]; omega)] at h
      rw [List.getElem?_replicate] at h
      split at h <;> cases h
section
variable {P : Program} {w : World} {K : PySem.W.Frag} {mg : Str → Option Value} {base : Heap} {x qual : Str} {params : Arguments} {body : List Stmt} {scope : Scope} {kws : List (Str × V)} {f : Addr} {fd : FuncData} {N ps : List Str} {k : Nat} {mf : List D → M D}
theorem fn_cal {T : Type} {eN : T → List Sl} {mB : List D → M (Fl T Empty)} (F : FunD K x qual params body scope [] kws (He.ga K x) fd) (hm : mg x = some (.ref (He.ga K x))) (S : FnScope N ps scope)
    (hb : ∀ (kV doc pm : Value) (an : Option Addr) (cdv ct : Value) (us : List Value), us.length = ps.length → bindArgs (PySem.W.fnOf x qual params body scope .none kV doc pm an cdv ct) ⟨us, []⟩ = pure (ps.zip us))
    (hbody : ∀ (cdv : Value) (A : Around) (outer : List Env) (s : Shared) (H : Hp) (E : XK) (ds : List D), ds.length = ps.length → cdv = .ref (He.cT K (x, none)).1 → Room k (A.deeper (envOfC qual scope s.heap.objs.size (He.ga K x) cdv)) →
      DB (cxOf (L2N.CX P w) P w K mg base N qual scope (He.ga K x) cdv A outer s H E) E (startD N ds) body eN eE (mB ds)) : FnOk P w K mg base (L2N.CX P w) (k + 1) (He.ga K x) fd ps (SpD K ps.length fun ds => mB ds >>= retM) := by
  obtain ⟨oc, od, dV, kV, doc, pm, an, cdv, ct, osl, rfl, lk, hcd, _, _⟩ := F.ex
  have hc1 : cdv = .ref (He.cT K (x, none)).1 := by
    unfold PySem.W.codeIn at hcd
    split at hcd
    · rename_i c
      exact congrArg Value.ref (He.codeOf_eq (p := (x, none)) lk rfl).symm
    · cases hcd
  refine fn_of lk hcd S (fun vs H Q E h => h.1) (fun A outer s H vs Q E hr h => ?_)
  obtain ⟨hl, W, st, ds, hh, r, h⟩ := h
  refine ⟨_, (hbody cdv A outer s H E ds (r.length.symm.trans hl) hc1 hr).pss, W, st, hh, Slots.start r, ?_⟩
  refine (After.bind h).mono fun fl W1 H1 st1 _ e1 hh1 h1 => ?_
  cases fl with
  | next s => exact fun σ' _ => After.pure' h1 hh1 _ rfl
  | ret d => exact fun v r => After.pure' h1 hh1 v r
  | brk t => exact t.elim
  | cnt t => exact t.elim
theorem cal_of {T : Type} {eN : T → List Sl} {mB : List D → M (Fl T Empty)} (F : FunD K x qual params body scope [] kws (He.ga K x) fd) (hm : mg x = some (.ref (He.ga K x))) (S : FnScope N ps scope)
    (hb : ∀ (kV doc pm : Value) (an : Option Addr) (cdv ct : Value) (us : List Value), us.length = ps.length → bindArgs (PySem.W.fnOf x qual params body scope .none kV doc pm an cdv ct) ⟨us, []⟩ = pure (ps.zip us))
    (hbody : ∀ (cdv : Value) (A : Around) (outer : List Env) (s : Shared) (H : Hp) (E : XK) (ds : List D), ds.length = ps.length → cdv = .ref (He.cT K (x, none)).1 → Room k (A.deeper (envOfC qual scope s.heap.objs.size (He.ga K x) cdv)) →
      DB (cxOf (L2N.CX P w) P w K mg base N qual scope (He.ga K x) cdv A outer s H E) E (startD N ds) body eN eE (mB ds)) : CalD P w K mg base (k + 1) x ps.length fun ds => mB ds >>= retM :=
  ⟨He.ga K x, fd, ps, fn_cal F hm S hb hbody, hm, F.kp, F.bindsN hb, rfl⟩
/-- the promise by another word -/
theorem fn_to {n : Nat} {mf mf' : List D → M D} (F : FnOk P w K mg base (L2N.CX P w) k f fd ps (SpD K n mf)) (h : ∀ ds, ds.length = n → mf' ds = mf ds) : FnOk P w K mg base (L2N.CX P w) k f fd ps (SpD K n mf') :=
  F.imp fun vs H Q E ⟨hl, W, st, ds, hh, hr, hq⟩ => ⟨hl, W, st, ds, hh, hr, by rw [← h ds (hr.length.symm.trans hl)]; exact hq⟩
/-- nothing is promised -/
theorem cal_stuck (F : FunD K x qual params body scope [] kws f fd) (hm : mg x = some (.ref f)) (S : FnScope N ps scope)
    (hb : ∀ (kV doc pm : Value) (an : Option Addr) (cdv ct : Value) (us : List Value), us.length = ps.length → bindArgs (PySem.W.fnOf x qual params body scope .none kV doc pm an cdv ct) ⟨us, []⟩ = pure (ps.zip us)) : CalD P w K mg base (k + 1) x ps.length fun ds => M.stuck := by
  refine ⟨f, fd, ps, F.ok S (fun vs H Q E h => h.1) (fun cdv A outer s H vs Q E hr h => ?_), hm, F.kp, F.bindsN hb, rfl⟩
  obtain ⟨hl, W, st, ds, hh, r, h⟩ := h
  exact h.elim
end
def mk1 (g : D → M D) : List D → M D
  | [a] => g a
  | _ => M.stuck
def mk2 (g : D → D → M D) : List D → M D
  | [a, b] => g a b
  | _ => M.stuck
def mk3 (g : D → D → D → M D) : List D → M D
  | [a, b, c] => g a b c
  | _ => M.stuck
def mk4 (g : D → D → D → D → M D) : List D → M D
  | [a, b, c, d] => g a b c d
  | _ => M.stuck
def mk0 (g : M D) : List D → M D
  | [] => g
  | _ => M.stuck
section
variable {X : Cx} {E : St → XK} {σd : List Sl} {e : Expr} {es : List Expr} {m : M (List D)} {pos p : Pos} {k j n : Nat} {x : Str} {mf : List D → M D}
/-- f(e, ..) -/
theorem de_call (c : CalD X.prog X.w X.K X.mg X.base j x n mf) (hr : Room k X.A) (hj : j ≤ k) (hg : Gl X x) (hx : ∀ σ, PassesAt (L2N.CX X.prog X.w) X σ (E σ)) (ha : DA X E σd (e :: es) m) (hn : n = es.length + 1) (hl : (starEach (e :: es) X.env).length = es.length + 1)
    (hdb : (x == ("__debug__" : Str)) = false) (he : starEach (e :: es) X.env = (false, eval e X.env) :: starEach es X.env) (hpl : (backTo pos (starEach es X.env)).any (·.1) = false)
    (hs : ∀ ds st, ds.length ≠ n → mf ds st = .stuck) : DE X E σd (.Call (.Name x p) (e :: es) [] pos) (m >>= mf) := by
  obtain ⟨f, fd, ps, F, hm, hk, hb, hps⟩ := c.ex
  refine ⟨pe_imp (pe_callSD F (hr.mono hj) hg hm hk hb .nil hx ha.pa hdb he hpl) fun σ H Q ⟨W, st, hh, hs1, h⟩ => ⟨W, st, hh, hs1, (After.next hs1 hh h).mono fun ds W1 H1 st1 _ _ _ ⟨e1, hh1, hs2, h1⟩ vs r1 => ?_⟩⟩
  show SpD X.K n mf (vs ++ []) H1 Q (E σ)
  rw [List.append_nil]
  refine ⟨?_, W1, st1, ds, hh1, r1, h1⟩
  by_cases hd : ds.length = n
  · exact r1.length.trans hd
  · have h1' : After X.K W1 H1 (E σ) (mf ds st1) _ := h1
    rw [hs ds st1 hd] at h1'
    exact h1'.elim
/-- f() -/
theorem de_call0 (c : CalD X.prog X.w X.K X.mg X.base j x 0 mf) (hr : Room k X.A) (hj : j ≤ k) (hg : Gl X x) (hx : Passes (L2N.CX X.prog X.w) X E1) (hE : ∀ σ, E σ = E1) (hdb : (x == ("__debug__" : Str)) = false) : DE X E σd (.Call (.Name x p) [] [] pos) (mf []) := by
  obtain ⟨f, fd, ps, F, hm, hk, hb, hps⟩ := c.ex
  exact ⟨pe_imp (pe_call0 F (hr.mono hj) hg hm hk hb .nil hx hdb) fun σ H Q ⟨W, st, hh, hs1, h⟩ => ⟨rfl, W, st, [], hh, rfl, by rw [← hE σ]; exact h⟩⟩
theorem mk1_len (g : D → M D) : ∀ ds st, ds.length ≠ 1 → mk1 g ds st = .stuck := fun ds st h => match ds, h with
  | [], _ => rfl
  | [_], h => absurd rfl h
  | _ :: _ :: _, _ => rfl
theorem mk2_len (g : D → D → M D) : ∀ ds st, ds.length ≠ 2 → mk2 g ds st = .stuck := fun ds st h => match ds, h with
  | [], _ => rfl
  | [_], _ => rfl
  | [_, _], h => absurd rfl h
  | _ :: _ :: _ :: _, _ => rfl
theorem mk3_len (g : D → D → D → M D) : ∀ ds st, ds.length ≠ 3 → mk3 g ds st = .stuck := fun ds st h => match ds, h with
  | [], _ => rfl
  | [_], _ => rfl
  | [_, _], _ => rfl
  | [_, _, _], h => absurd rfl h
  | _ :: _ :: _ :: _ :: _, _ => rfl
theorem mk4_len (g : D → D → D → D → M D) : ∀ ds st, ds.length ≠ 4 → mk4 g ds st = .stuck := fun ds st h => match ds, h with
  | [], _ => rfl
  | [_], _ => rfl
  | [_, _], _ => rfl
  | [_, _, _], _ => rfl
  | [_, _, _, _], h => absurd rfl h
  | _ :: _ :: _ :: _ :: _ :: _, _ => rfl
end
/-- within a comprehension nothing is let out -/
theorem passB {X : Cx} (σ : St) : PassesAt (L2N.CX X.prog X.w) X σ (E0' σ) := fun _ _ _ _ _ _ c => by
  obtain ⟨_, _, _, _, _, _, _, _, _, _, _, _, z⟩ := c
  exact z.elim
/-- in a def's body -/
theorem passF {X : Cx} {E : XK} (tk : L2N.Takes X (fun cls d _ H => E cls d H)) (σ : St) : PassesAt (L2N.CX X.prog X.w) X σ E := L2N.passAt tk σ
/-! ### raise X('..') -/
/-- an own error class -/
def ErrC (K : PySem.W.Frag) (mg : Str → Option Value) (x : Str) : Prop := ∃ (bmB : List Value) (B newId initId : String), ExcBaseFacts B newId initId bmB ∧ PySem.W.excIn K (He.ga K x) bmB newId = true ∧ mg x = some (.ref (He.ga K x)) ∧ PySem.W.keepIn K (.ref (He.ga K x)) = true ∧
  PySem.W.subIn K (.ref (He.ga K x)) (.type "BaseException") = some true ∧ PySem.W.typeIn K (.ref (He.ga K x)) = some (.type "type")
section
variable {X : Cx} {E : XK} {σd : List Sl} {N T : Type} {eN : N → List Sl} {eT : T → List Sl} {ss : List Stmt} {pos pos' p p2 : Pos}
theorem db_raise {x m : Str} {j : Nat} (hc : X.calm = true) (tk : L2N.Takes X (fun cls d _ H => E cls d H)) (c : ErrC X.K X.mg x) (hg : Gl X x) (hdb : (x == ("__debug__" : Str)) = false) :
    DB X E σd (.Raise (some (.Call (.Name x p) [.Constant (.str m) j p2] [] pos)) none pos' :: ss) eN eT (M.throw ⟨x, []⟩) := by
  obtain ⟨bmB, B, newId, initId, F, q, gC, kC, bC, tC⟩ := c
  refine ⟨pss_imp (pss_cons (L2N.ps_raise hc tk (L2N.pmk_own F q gC kC (raises_own bC tC) hg hdb)) pss_never) fun Dn σ H ⟨W, st, hh, hs, h⟩ => ?_⟩
  exact h W H _ none Ext.refl hh ⟨rfl, .inl ⟨rfl, rfl⟩⟩
end
end DL
/-! DL12: texts, sorted, lists put together, enumerate. -/
namespace DL
open PySem PySem.Spec L2 PyProof.Rows
open TL (joinL spl spl_nil spl_hit spl_miss pre)

section
variable {K : PySem.W.Frag} {W W' : Wd} {H H' : Hp} {st : Store} {v x y : V} {d : D} {E : XK} {Q : VK} {ds : List D}
/-! ### equality, a cell as it is now -/
def pk : D → M D
  | .ref k => rdC k >>= fun xs => pure (.lst xs)
  | d => pure d
theorem pk_run {α : Type} {f : D → M α} {k : α → Wd → Hp → Store → Prop} (hh : Holds K W H st) (r : Rep K W H v d) (h : After K W H E ((pk d >>= f) st) k) : ∃ W' d', Rep K W' H v d' ∧ After K W H E (f d' st) k := by
  cases d with
  | ref i =>
    have h' : After K W H E (((rdC i >>= fun xs => pure (.lst xs)) >>= f) st) k := h
    rw [M.bind_assoc] at h'
    rcases rdC_cases i st with ⟨xs, q, q2⟩ | q
    · rw [bind_ok q2] at h'
      obtain ⟨a, rfl, ha⟩ := r
      obtain ⟨u, vs, h1, hz, h2⟩ := hh.cell i _ a q ha
      exact ⟨W.less a, .lst xs, ⟨a, vs, rfl, fun z => z.2 rfl, h1, hz, Reps.mono (W := W) (W' := W.less a) rfl (fun _ z => z.1) _ _ h2⟩, h'⟩
    · rw [bind_stuck q] at h'
      exact h'.elim
  | _ => exact ⟨W, _, r, h⟩
def dEqC (x y : D) : M D := pk x >>= fun x => pk y >>= fun y => dEq x y
def dNeC (x y : D) : M D := pk x >>= fun x => pk y >>= fun y => dNe x y
theorem rd_eqC : RD K (rEqD K) dEqC := by
  intro W H st x y dx dy Q E hh rx ry hq
  obtain ⟨W1, d1, r1, h1⟩ := pk_run hh rx hq
  obtain ⟨W2, d2, r2, h2⟩ := pk_run hh ry h1
  unfold dEq at h2
  by_cases hz : okD 60 d1 = true ∧ okD 60 d2 = true
  · rw [if_pos hz] at h2
    refine ⟨toPy d1, toPy d2, (okD_dp 60 d1 x hz.1 r1).1, (okD_dp 60 d2 y hz.2 r2).1, okD_shaped hz.1 r1, okD_shaped hz.2 r2, ?_⟩
    rw [eqd_py 60 d1 d2 hz.1 hz.2]
    exact Fin.ret h2 hh rfl
  · rw [if_neg hz] at h2
    exact h2.elim
theorem rd_neC : RD K (rNeD K) dNeC := by
  intro W H st x y dx dy Q E hh rx ry hq
  obtain ⟨W1, d1, r1, h1⟩ := pk_run hh rx hq
  obtain ⟨W2, d2, r2, h2⟩ := pk_run hh ry h1
  unfold dNe at h2
  by_cases hz : okD 60 d1 = true ∧ okD 60 d2 = true
  · rw [if_pos hz] at h2
    refine ⟨toPy d1, toPy d2, (okD_dp 60 d1 x hz.1 r1).1, (okD_dp 60 d2 y hz.2 r2).1, okD_shaped hz.1 r1, okD_shaped hz.2 r2, ?_⟩
    rw [eqd_py 60 d1 d2 hz.1 hz.2]
    exact Fin.ret h2 hh rfl
  · rw [if_neg hz] at h2
    exact h2.elim
/-! ### a list and a list -/
def dCat (fin : List D → M D) (x y : D) : M D := asLL x >>= fun xs => asLL y >>= fun ys => fin (xs ++ ys)
/-- both stand in the heap as lists -/
theorem asLL_at {α : Type} {f : List D → M α} {k : α → Wd → Hp → Store → Prop} (hh : Holds K W H st) (r : Rep K W H v d) (h : After K W H E ((asLL d >>= f) st) k) :
    ∃ a vs xs, v = .ref a ∧ H a = some (.lst vs) ∧ xs.length ≤ 16777216 ∧ Reps K W H vs xs ∧ After K W H E (f xs st) k := by
  cases d with
  | lst xs =>
    obtain ⟨a, vs, rfl, nu, ha, hz, r⟩ := r
    exact ⟨a, vs, xs, rfl, ha, hz, r, h⟩
  | ref n =>
    have h' : After K W H E ((rdC n >>= f) st) k := h
    rcases rdC_cases n st with ⟨xs, q, q2⟩ | q
    · rw [bind_ok q2] at h'
      obtain ⟨a, rfl, ha⟩ := r
      obtain ⟨u, vs, h1, hz, r'⟩ := hh.cell n _ a q ha
      exact ⟨a, vs, xs, rfl, h1, hz, r', h'⟩
    · rw [bind_stuck q] at h'
      exact h'.elim
  | _ => exact h.elim
theorem rd_cat {fin : List D → M D} (hf : FinOk K fin) : RD K rCat (dCat fin) := by
  intro W H st x y dx dy Q E hh rx ry h
  obtain ⟨a, vs, xs, rfl, ha, hz, r, h1⟩ := asLL_at hh rx h
  obtain ⟨b, ws, ys, rfl, hb, hz2, r2, h2⟩ := asLL_at hh ry h1
  have hl := hf.some h2
  exact ⟨a, b, vs, ws, rfl, rfl, ha, hb, by rw [r.length, r2.length, sizeLine_eq, ← List.length_append]; exact hl, fun p hp => hf.new hh hp hl (r.append r2) h2⟩
/-! ### texts -/
def joinOk (a : List Nat) (ys : List (List Nat)) : Bool := decide ((ys.map (·.length)).sum + ys.length * a.length ≤ 16777216)
def dJoin : D → D → M D
  | .str a, d => asL d >>= fun xs => ofO (strsOf xs) >>= fun ys => if joinOk a ys = true then pure (.str (joinL a ys)) else M.stuck
  | _, _ => M.stuck
theorem joinL_len (a : List Nat) : ∀ ys : List (List Nat), (joinL a ys).length ≤ (ys.map (·.length)).sum + ys.length * a.length
  | [] => Nat.zero_le _
  | [p] => by show p.length ≤ _; simp
  | p :: q :: r => by
    have ih := joinL_len a (q :: r)
    show (p ++ (a ++ joinL a (q :: r))).length ≤ _
    rw [List.length_append, List.length_append, List.map_cons, List.sum_cons, List.length_cons (a := p), Nat.add_mul]
    omega
theorem joinL_mem (a : List Nat) : ∀ (ys : List (List Nat)) (c : Nat), c ∈ joinL a ys → c ∈ a ∨ ∃ y ∈ ys, c ∈ y
  | [], _, h => nomatch h
  | [p], c, h => .inr ⟨p, by simp, h⟩
  | p :: q :: r, c, h => by
    have h' : c ∈ p ++ (a ++ joinL a (q :: r)) := h
    rcases List.mem_append.mp h' with h1 | h1
    · exact .inr ⟨p, by simp, h1⟩
    · rcases List.mem_append.mp h1 with h2 | h2
      · exact .inl h2
      · rcases joinL_mem a (q :: r) c h2 with h3 | ⟨y, h3, h4⟩
        · exact .inl h3
        · exact .inr ⟨y, List.mem_cons_of_mem _ h3, h4⟩
def rJoin (K : PySem.W.Frag) : V → List V → Hp → VK → Prop := fun x xs H Q => ∃ a p, ∃ ys : List Str, x = .str a ∧ xs = [.ref p] ∧ (SqL K H p (ys.map V.str) ∨ SqT K H p (ys.map V.str)) ∧ (ys.map (·.length)).sum + ys.length * a.length ≤ 16777216 ∧ Q (.str (Txt.join a ys)) H
theorem join_codes (a : List Nat) (ys : List (List Nat)) : Txt.join (mkS a) (ys.map mkS) = mkS (joinL a ys) := by
  have e : (Txt.join (mkS a) (ys.map mkS)).cps.toList = joinL a ys := by
    have h := TL.tl_join (mkS a) (ys.map mkS)
    have e2 : (ys.map mkS).map TL.tl = ys := by
      rw [List.map_map]
      exact (List.map_congr_left fun _ _ => rfl).trans (List.map_id _)
    rw [e2] at h
    rw [TL.join_eq]
    exact h
  rw [← e, mkS_of]
theorem join_run {x y : V} {dx dy : D} (hh : Holds K W H st) (rx : Rep K W H x dx) (ry : Rep K W H y dy) (h : Fin K W H E (dJoin dx dy st) Q) : rJoin K x [y] H Q := by
  cases dx with
  | str a =>
    have h' : Fin K W H E ((asL dy >>= fun xs => ofO (strsOf xs) >>= fun ys => if joinOk a ys = true then pure (.str (joinL a ys)) else M.stuck) st) Q := h
    obtain ⟨p, vs, xs, rfl, hq, hz, r, h1⟩ := asL_run hh ry h'
    obtain ⟨ys, e, h2⟩ := ofO_run h1
    by_cases hj : joinOk a ys = true
    · rw [if_pos hj] at h2
      rw [strsOf_eq e] at r
      have r' := r.strs
      rw [r'] at hq
      have hj' : (ys.map (·.length)).sum + ys.length * a.length ≤ 16777216 := of_decide_eq_true hj
      refine ⟨mkS a, p, ys.map mkS, rx.1, rfl, hq, ?_, ?_⟩
      · rw [List.length_map, mkS_len, List.map_map]
        have e3 : (ys.map ((·.length) ∘ mkS)) = ys.map (·.length) := List.map_congr_left fun z _ => mkS_len z
        rw [e3]
        exact hj'
      · rw [join_codes]
        refine After.pure' h2 hh _ ⟨rfl, sOk_iff.mpr ⟨Nat.le_trans (joinL_len a ys) hj', fun c hc => ?_⟩⟩
        rcases joinL_mem a ys c hc with h3 | ⟨z, h3, h4⟩
        · exact (sOk_iff.mp rx.2).2 c h3
        · exact (sOk_iff.mp (r.strOk z h3)).2 c h4
    · rw [if_neg hj] at h2
      exact h2.elim
  | _ => exact h.elim
def splOk (a b : List Nat) : Bool := !b.isEmpty && decide (a.length + 2 ≤ 16777216) && decide (¬ Builtin.Str.strKind (mkS a) < Builtin.Str.strKind (mkS b))
def dSplit (fin : List D → M D) : D → D → M D
  | .str a, .str b => if splOk a b = true then fin ((spl b 0 [] a).map D.str) else M.stuck
  | _, _ => M.stuck
theorem spl_mem (S : List Nat) : ∀ (l : List Nat) (k : Nat) (acc : List Nat) (z : List Nat) (c : Nat), z ∈ spl S k acc l → c ∈ z → c ∈ acc ∨ c ∈ l
  | [], k, acc, z, c, h, hc => by
    rw [spl_nil] at h
    rw [List.mem_singleton.mp h] at hc
    exact .inl hc
  | d :: r, 0, acc, z, c, h, hc => by
    by_cases hp : pre S (d :: r) = true
    · rw [spl_hit hp] at h
      rcases List.mem_cons.mp h with e | h
      · rw [e] at hc; exact .inl hc
      · rcases spl_mem S r _ [] z c h hc with q | q
        · cases q
        · exact .inr (List.mem_cons_of_mem _ q)
    · rw [spl_miss (by simpa using hp)] at h
      rcases spl_mem S r 0 (acc ++ [d]) z c h hc with q | q
      · rcases List.mem_append.mp q with q | q
        · exact .inl q
        · rw [List.mem_singleton.mp q]; exact .inr List.mem_cons_self
      · exact .inr (List.mem_cons_of_mem _ q)
  | d :: r, k + 1, acc, z, c, h, hc => by
    have h' : z ∈ spl S k acc r := h
    rcases spl_mem S r k acc z c h' hc with q | q
    · exact .inl q
    · exact .inr (List.mem_cons_of_mem _ q)
theorem spl_len (S : List Nat) : ∀ (l : List Nat) (k : Nat) (acc : List Nat) (z : List Nat), z ∈ spl S k acc l → z.length ≤ acc.length + l.length
  | [], k, acc, z, h => by
    rw [spl_nil] at h
    rw [List.mem_singleton.mp h]
    simp
  | d :: r, 0, acc, z, h => by
    by_cases hp : pre S (d :: r) = true
    · rw [spl_hit hp] at h
      rcases List.mem_cons.mp h with e | h
      · rw [e]; omega
      · have := spl_len S r _ [] z h
        simp only [List.length_nil, List.length_cons] at this ⊢
        omega
    · rw [spl_miss (by simpa using hp)] at h
      have := spl_len S r 0 (acc ++ [d]) z h
      simp only [List.length_append, List.length_cons, List.length_nil] at this ⊢
      omega
  | d :: r, k + 1, acc, z, h => by
    have h' : z ∈ spl S k acc r := h
    have := spl_len S r k acc z h'
    simp only [List.length_cons]
    omega
def rSplit : V → List V → Hp → VK → Prop := fun x xs H Q => ∃ a b, x = .str a ∧ xs = [.str b] ∧ (b.length == 0) = false ∧ a.length + 2 ≤ sizeLine ∧ rNewStrs (Txt.split a b) H Q
theorem split_run {fin : List D → M D} {x y : V} {dx dy : D} (hf : FinOk K fin) (hh : Holds K W H st) (rx : Rep K W H x dx) (ry : Rep K W H y dy) (h : Fin K W H E (dSplit fin dx dy st) Q) : rSplit x [y] H Q := by
  cases dx with
  | str a =>
    cases dy with
    | str b =>
      have h' : Fin K W H E ((if splOk a b = true then fin ((spl b 0 [] a).map D.str) else M.stuck : M D) st) Q := h
      by_cases hs : splOk a b = true
      · rw [if_pos hs] at h'
        unfold splOk at hs
        rw [Bool.and_eq_true, Bool.and_eq_true] at hs
        obtain ⟨⟨h1, h2⟩, h3⟩ := hs
        have hb : b ≠ [] := by
          intro e; rw [e] at h1; cases h1
        have h2' := of_decide_eq_true h2
        have h3' := of_decide_eq_true h3
        refine ⟨mkS a, mkS b, rx.1, by rw [ry.1], ?_, by rw [mkS_len, sizeLine_eq]; exact h2', fun p hp => ?_⟩
        · rw [mkS_len]
          cases b with
          | nil => exact absurd rfl hb
          | cons _ _ => rfl
        · have e : (Txt.split (mkS a) (mkS b)).map TL.tl = spl b 0 [] a := TL.split_spl (mkS a) (mkS b) hb h3'
          have e2 : Txt.split (mkS a) (mkS b) = (spl b 0 [] a).map mkS := by
            rw [← e, List.map_map]
            have : (Txt.split (mkS a) (mkS b)).map (mkS ∘ TL.tl) = (Txt.split (mkS a) (mkS b)).map id := List.map_congr_left fun z _ => mkS_of z
            rw [this, List.map_id]
          rw [e2]
          refine hf.new hh hp (hf.some h') (Reps.ofStrs _ fun z hz => sOk_iff.mpr ⟨?_, fun c hc => ?_⟩) h'
          · have := spl_len b a 0 [] z hz
            have := (sOk_iff.mp rx.2).1
            simp only [List.length_nil] at *
            omega
          · rcases spl_mem b a 0 [] z c hz hc with q | q
            · cases q
            · exact (sOk_iff.mp rx.2).2 c q
      · rw [if_neg hs] at h'
        exact h'.elim
    | _ => exact h.elim
  | _ => cases dy <;> exact h.elim
def dCount : D → D → M D
  | .str a, .str b => pure (.int (Txt.count (mkS a) (mkS b)))
  | _, _ => M.stuck
def rCount : V → List V → Hp → VK → Prop := fun x xs H Q => ∃ a b, x = .str a ∧ xs = [.str b] ∧ Q (.int (Txt.count a b)) H
theorem count_run {x y : V} {dx dy : D} (hh : Holds K W H st) (rx : Rep K W H x dx) (ry : Rep K W H y dy) (h : Fin K W H E (dCount dx dy st) Q) : rCount x [y] H Q := by
  cases dx with
  | str a =>
    cases dy with
    | str b => exact ⟨mkS a, mkS b, rx.1, by rw [ry.1], After.pure' h hh _ rfl⟩
    | _ => exact h.elim
  | _ => cases dy <;> exact h.elim
/-- the value is a text -/
def isS : D → M Unit
  | .str _ => pure ()
  | _ => M.stuck
end
section
variable {X : Cx} {E : St → XK} {σd : List Sl} {o e : Expr} {mo me : M D} {apos cpos : Pos}
/-- text.m(e) -/
theorem de_sm1 {id : String} {name : Str} {r : V → List V → Hp → VK → Prop} {f : D → D → M D} (slot : Slot "str" name id) (ty : typeOf (.builtin id) = pure (.type "method_descriptor")) (rule : MtR X id r)
    (hr : ∀ (W : Wd) (H : Hp) (st : Store) (x y : V) (dx dy : D) (Q : VK) (E : XK), Holds X.K W H st → Rep X.K W H x dx → Rep X.K W H y dy → Fin X.K W H E (f dx dy st) Q → r x [y] H Q) (ho : DE X E σd o mo) (he : DE X E σd e me)
    (hs : starEach [e] X.env = [(false, eval e X.env)]) (hbase : attributeBase o name X.env (eval o X.env) = eval o X.env) (hline : (apos.endLine == cpos.line) = true) : DE X E σd (.Call (.Attribute o name apos) [e] [] cpos) (mo >>= fun x => isS x >>= fun _ => me >>= fun y => f x y) :=
  ⟨pe_imp (pe_m1 slot ty rule ho.pe he.pe hs hbase hline) fun σ H Q ⟨W, st, hh, hs, h⟩ => tD_run hh hs h fun d v W1 H1 st1 e1 hh1 hs1 r1 h1 => by
    cases d with
    | str a => exact ⟨⟨_, r1.1⟩, tD_run hh1 hs1 h1 fun d2 v2 W2 H2 st2 e2 hh2 hs2 r2 h2 => hr W2 H2 st2 v v2 (.str a) d2 Q (E σ) hh2 r1 r2 h2⟩
    | _ => exact h1.elim⟩
theorem de_join (ho : DE X E σd o mo) (he : DE X E σd e me) (hs : starEach [e] X.env = [(false, eval e X.env)]) (hbase : attributeBase o "join" X.env (eval o X.env) = eval o X.env) (hline : (apos.endLine == cpos.line) = true) :
    DE X E σd (.Call (.Attribute o "join" apos) [e] [] cpos) (mo >>= fun x => isS x >>= fun _ => me >>= fun y => dJoin x y) :=
  de_sm1 PySem.F.slot_str_join PySem.F.type_str_join mt_join (fun W H st x y dx dy Q E hh rx ry h => join_run hh rx ry h) ho he hs hbase hline
theorem de_split {fin : List D → M D} (hf : FinOk X.K fin) (ho : DE X E σd o mo) (he : DE X E σd e me) (hs : starEach [e] X.env = [(false, eval e X.env)]) (hbase : attributeBase o "split" X.env (eval o X.env) = eval o X.env) (hline : (apos.endLine == cpos.line) = true) :
    DE X E σd (.Call (.Attribute o "split" apos) [e] [] cpos) (mo >>= fun x => isS x >>= fun _ => me >>= fun y => dSplit fin x y) :=
  de_sm1 PySem.F.slot_str_split PySem.F.type_str_split mt_split (fun W H st x y dx dy Q E hh rx ry h => split_run hf hh rx ry h) ho he hs hbase hline
theorem de_count (ho : DE X E σd o mo) (he : DE X E σd e me) (hs : starEach [e] X.env = [(false, eval e X.env)]) (hbase : attributeBase o "count" X.env (eval o X.env) = eval o X.env) (hline : (apos.endLine == cpos.line) = true) :
    DE X E σd (.Call (.Attribute o "count" apos) [e] [] cpos) (mo >>= fun x => isS x >>= fun _ => me >>= fun y => dCount x y) :=
  de_sm1 PySem.F.slot_str_count PySem.F.type_str_count mt_count (fun W H st x y dx dy Q E hh rx ry h => count_run hh rx ry h) ho he hs hbase hline
end
/-! ### sorted -/
/-- sorted(xs), data that compare: a new list -/
def rSortD (K : PySem.W.Frag) (un : Nat) : List V → Hp → VK → Prop := fun vs H Q => ∃ (a : Addr) (ps : List (V × PyData)), vs = [V.ref a] ∧ SqL K H a (ps.map (·.1)) ∧ (∀ p ∈ ps, Dp K H p.1 p.2) ∧ PySem.W.AllAlike (ps.map (·.2)) ∧ (PySem.W.Sortable (ps.map (·.2)) ∨ (ps.length ≤ 1 ∧ ∀ p ∈ ps, p.2 ≠ .none)) ∧ (∀ p ∈ ps, un + 2 + p.2.depth < cLine) ∧
  ∀ q, H q = none → Q (.ref q) (upd H q (.lst ((ps.mergeSort (PySem.W.dataLe false (·.2))).map (·.1))))
theorem each_of {α : Type} {g : α → V} : ∀ {ps : List α} {us : List Value}, Vals (ps.map g) us → PySem.W.EachIs (fun u p => RelV (g p) u) us ps
  | [], _, h => by cases h; exact .nil
  | p :: ps, _, h => by
    cases h with
    | cons r t => exact .cons r (each_of t)
theorem of_each {α : Type} {g : α → V} : ∀ {ps : List α} {us : List Value}, PySem.W.EachIs (fun u p => RelV (g p) u) us ps → Vals (ps.map g) us
  | _, _, .nil => .nil
  | _, _, .cons r t => .cons r (of_each t)
theorem each_imp {α β : Type} {R R' : α → β → Prop} : ∀ {us : List α} {ps : List β}, PySem.W.EachIs R us ps → (∀ u, ∀ p ∈ ps, R u p → R' u p) → PySem.W.EachIs R' us ps
  | _, _, .nil, _ => .nil
  | _, _, .cons r t, h => .cons (h _ _ List.mem_cons_self r) (each_imp t fun u p hp => h u p (List.mem_cons_of_mem _ hp))
/-- one datum alone compares -/
theorem few_sorts {prog : Program} {w : World} {A : Around} {s : Shared} {vs : List Value} {ds : List PyData} (e : PySem.W.EachIs (fun v d => ∃ as, Reads s.heap v d as) vs ds) (hal : PySem.W.AllAlike ds) (h1 : ds.length ≤ 1) (hn : ∀ d ∈ ds, d ≠ .none) (hu : ∀ d, d ∈ ds → A.units + d.depth < cLine) : PySem.W.SortsAt prog w A s (PySem.W.dataKind s.heap ds) vs :=
  ⟨fun v hv => by
    obtain ⟨d, hd, as, r⟩ := e.left v hv
    exact ⟨_, PySem.W.dataKind_some hal hd r⟩, PyProof.Rows.general', fun EE x y a b Q ha hb hq => by
    obtain ⟨d, as, hd, ra, rfl⟩ := PySem.W.dataKind_inv ha
    obtain ⟨d2, as2, hd2, rb, rfl⟩ := PySem.W.dataKind_inv hb
    exact PySem.W.oneLt_alike (f := false) (fun z => by cases z) ra rb (hal d hd d2 hd2) (hn d hd) (Nat.lt_of_le_of_lt (Nat.add_le_add_left (Nat.min_le_left _ _) _) (hu d hd)) hq, fun h2 => absurd h2 (by
    have := e.length
    omega)⟩
theorem sorted_few {prog : Program} {w : World} {A : Around} {E : Value → Shared → Prop} {s : Shared} {β : Type} {vs : List Value} {bs : List β} {enc : β → PyData} {R : Value → β → Prop} {l : Addr} {Q : Value → Shared → Prop} (hl : s.heap.IsList l vs.toArray) (e : PySem.W.EachIs R vs bs) (er : PySem.W.EachIs (fun v b => ∃ as, Reads s.heap v (enc b) as) vs bs) (hal : PySem.W.AllAlike (bs.map enc)) (h1 : bs.length ≤ 1) (hn : ∀ b ∈ bs, enc b ≠ .none) (hL : bs.length ≤ sizeLine) (hu : ∀ b, b ∈ bs → A.units + 2 + (enc b).depth < cLine)
    (h : ∀ out, out.length = bs.length → PySem.W.EachIs R out (bs.mergeSort (PySem.W.dataLe false enc)) → Q (.ref (s.heap.objs.size + 1)) { s with heap := PyProof.Rows.sortedAll s.heap vs (List.toArray out) }) : wpAny (model prog w) A (call (.builtin "sorted") [.ref l]) Q E s := by
  have er2 : PySem.W.EachIs (fun v b => ∃ as, Reads (PySem.W.sortingHeap (PySem.W.copyHeap s.heap vs) (s.heap.objs.size + 1) vs) v (enc b) as) vs bs := er.mono fun _ _ ⟨as, r⟩ => ⟨as, PyProof.Rows.Reads.keeps (fun _ _ => PySem.W.sorting_copy_old) r⟩
  have em : PySem.W.EachIs (fun v d => ∃ as, Reads (PySem.W.sortingHeap (PySem.W.copyHeap s.heap vs) (s.heap.objs.size + 1) vs) v d as) vs (bs.map enc) := PySem.W.each_map enc er2
  refine PySem.W.sorted_vals hl (few_sorts (s := { s with heap := PySem.W.sortingHeap (PySem.W.copyHeap s.heap vs) (s.heap.objs.size + 1) vs }) em hal (by rw [List.length_map]; exact h1) (fun d hd => ?_) (PySem.W.bound_map hu)) (by rw [e.length]; exact hL) (h _ (by rw [PySem.W.sortVals_length false rfl]; exact e.length) (PySem.W.sortVals_data false e er2 hal))
  obtain ⟨b, hb, rfl⟩ := List.mem_map.mp hd
  exact hn b hb
theorem cr_sortedD {X : Cx} : CallR X (.builtin "sorted") (rSortD X.K X.A.units) := by
  intro pins s σ H vs us Q I r h
  obtain ⟨a, ps, rfl, hs, hd, hal, hk, hu, q⟩ := h
  obtain ⟨its, rv, hl, hz⟩ := I.list hs
  obtain ⟨u, rfl, ru⟩ := vals1 r
  obtain rfl : u = Value.ref a := ru
  have e := each_of rv
  rw [List.length_map] at hz
  rcases hk with hk | ⟨k1, k2⟩
  · refine PySem.W.sorted_data (enc := fun p : V × PyData => p.2) hl.isList e (each_imp e fun u p hp ru => Dp.reads I p.2 p.1 u (hd p hp) ru) hal hk hz hu fun out ho eo => ?_
    obtain ⟨ep, he'⟩ := PyProof.Rows.sortedAll_at s.heap its (List.toArray out)
    have ev : Vals ((ps.mergeSort (PySem.W.dataLe false (·.2))).map (·.1)) out := of_each eo
    refine ⟨.ref (s.heap.objs.size + 1), upd H (s.heap.objs.size + 1) (.lst ((ps.mergeSort (PySem.W.dataLe false (·.2))).map (·.1))), I.laid (t' := s.toks) (fun _ _ => PyProof.Rows.sortedAll_old) (Nat.le_succ _) ⟨?_, out, ep, ev, he'⟩, rfl, q _ (I.hok.fresh (Nat.le_succ _))⟩
    rw [List.length_map, List.length_mergeSort]
    exact hz
  · refine sorted_few (enc := fun p : V × PyData => p.2) hl.isList e (each_imp e fun u p hp ru => Dp.reads I p.2 p.1 u (hd p hp) ru) hal k1 k2 hz hu fun out ho eo => ?_
    obtain ⟨ep, he'⟩ := PyProof.Rows.sortedAll_at s.heap its (List.toArray out)
    have ev : Vals ((ps.mergeSort (PySem.W.dataLe false (·.2))).map (·.1)) out := of_each eo
    refine ⟨.ref (s.heap.objs.size + 1), upd H (s.heap.objs.size + 1) (.lst ((ps.mergeSort (PySem.W.dataLe false (·.2))).map (·.1))), I.laid (t' := s.toks) (fun _ _ => PyProof.Rows.sortedAll_old) (Nat.le_succ _) ⟨?_, out, ep, ev, he'⟩, rfl, q _ (I.hok.fresh (Nat.le_succ _))⟩
    rw [List.length_map, List.length_mergeSort]
    exact hz
/-- the data compare -/
def sortOk (ds : List D) : Bool := okDs 20 ds && (ds.all fun x => ds.all fun y => PySem.W.alike (toPy x) (toPy y)) && ((ds.all fun x => match x with | .tup (_ :: _) => true | _ => false) || ((ds.all fun x => match x with | .bl _ => true | .int _ => true | .str _ => true | .lst _ => true | _ => false) || decide (ds.length ≤ 1 ∧ ds.all (fun x => match x with | .tup _ => true | _ => false) = true)))
def srt (ds : List D) : List D := ds.mergeSort (PySem.W.dataLe false toPy)
def dSorted (fin : List D → M D) (d : D) : M D := asLL d >>= fun xs => if sortOk xs = true then fin (srt xs) else M.stuck
theorem okDs_at {n : Nat} : ∀ {ds : List D}, okDs n ds = true → ∀ d ∈ ds, okD n d = true
  | d :: ds, h, x, hx => by
    have h' : (okD n d && okDs n ds) = true := by unfold okDs at h; exact h
    rw [Bool.and_eq_true] at h'
    rcases List.mem_cons.mp hx with e | hx
    · rw [e]; exact h'.1
    · exact okDs_at h'.2 x hx
theorem zip_rep {K : PySem.W.Frag} {W : Wd} {H : Hp} : ∀ {ds : List D} {vs : List V}, Reps K W H vs ds → ∃ qs : List (V × D), qs.map (·.1) = vs ∧ qs.map (·.2) = ds ∧ ∀ q ∈ qs, Rep K W H q.1 q.2
  | [], _, h => by
    have e : _ = [] := h
    rw [e]
    exact ⟨[], rfl, rfl, fun q hq => nomatch hq⟩
  | d :: ds, _, h => by
    obtain ⟨v, r, rfl, h1, h2⟩ := h
    obtain ⟨qs, e1, e2, e3⟩ := zip_rep h2
    refine ⟨(v, d) :: qs, by rw [List.map_cons, e1], by rw [List.map_cons, e2], fun q hq => ?_⟩
    rcases List.mem_cons.mp hq with e | hq
    · rw [e]; exact h1
    · exact e3 q hq
theorem Reps.ofQ {K : PySem.W.Frag} {W : Wd} {H : Hp} : ∀ {qs : List (V × D)}, (∀ q ∈ qs, Rep K W H q.1 q.2) → Reps K W H (qs.map (·.1)) (qs.map (·.2))
  | [], _ => rfl
  | q :: qs, h => ⟨_, _, rfl, h q List.mem_cons_self, Reps.ofQ fun z hz => h z (List.mem_cons_of_mem _ hz)⟩
theorem rc_sorted {K : PySem.W.Frag} {fin : List D → M D} {un : Nat} (hf : FinOk K fin) (hu : un + 65 < cLine) : RC1 K (rSortD K un) (dSorted fin) := by
  intro W H st x dx Q E hh rx h
  obtain ⟨a, vs, xs, rfl, hq, hz, r, h1⟩ := asLL_run hh rx h
  by_cases hs : sortOk xs = true
  · rw [if_pos hs] at h1
    unfold sortOk at hs
    rw [Bool.and_eq_true, Bool.and_eq_true] at hs
    obtain ⟨⟨h2, h3⟩, h4⟩ := hs
    obtain ⟨qs, e1, e2, e3⟩ := zip_rep r
    subst e1 e2
    have hm : ∀ q ∈ qs, okD 20 q.2 = true := fun q hq => okDs_at h2 _ (List.mem_map.mpr ⟨q, hq, rfl⟩)
    have er : (qs.map fun q => (q.1, toPy q.2)).map (·.1) = qs.map (·.1) := by rw [List.map_map]; rfl
    have er2 : (qs.map fun q => (q.1, toPy q.2)).map (·.2) = (qs.map (·.2)).map toPy := by rw [List.map_map, List.map_map]; rfl
    refine ⟨a, qs.map fun q => (q.1, toPy q.2), rfl, by rw [er]; exact hq, fun p hp => ?_, ?_, ?_, fun p hp => ?_, fun q hp => ?_⟩
    · obtain ⟨q, hq, rfl⟩ := List.mem_map.mp hp
      exact (okD_dp 20 q.2 q.1 (hm q hq) (e3 q hq)).1
    · rw [er2]
      intro d hd d' hd'
      obtain ⟨y, hy, rfl⟩ := List.mem_map.mp hd
      obtain ⟨y', hy', rfl⟩ := List.mem_map.mp hd'
      exact List.all_eq_true.mp (List.all_eq_true.mp h3 y hy) y' hy'
    · rw [er2]
      rw [Bool.or_eq_true] at h4
      rcases h4 with h4 | h4
      · refine .inl (.inl fun d hd => ?_)
        obtain ⟨y, hy, rfl⟩ := List.mem_map.mp hd
        have := List.all_eq_true.mp h4 y hy
        split at this
        · exact ⟨_, _, rfl⟩
        · cases this
      · rw [Bool.or_eq_true] at h4
        rcases h4 with h4 | h4
        · refine .inl (.inr fun d hd => ?_)
          obtain ⟨y, hy, rfl⟩ := List.mem_map.mp hd
          have := List.all_eq_true.mp h4 y hy
          cases y with
          | bl _ => exact ⟨by simp [toPy], fun xs => by simp [toPy]⟩
          | int _ => exact ⟨by simp [toPy], fun xs => by simp [toPy]⟩
          | str _ => exact ⟨by simp [toPy], fun xs => by simp [toPy]⟩
          | lst _ => exact ⟨by simp [toPy], fun xs => by simp [toPy]⟩
          | _ => cases this
        · obtain ⟨k1, k2⟩ := of_decide_eq_true h4
          refine .inr ⟨by rw [List.length_map] at k1 ⊢; exact k1, fun p hp => ?_⟩
          obtain ⟨q, hq, rfl⟩ := List.mem_map.mp hp
          have := List.all_eq_true.mp k2 q.2 (List.mem_map.mpr ⟨q, hq, rfl⟩)
          show toPy q.2 ≠ .none
          cases hy : q.2 with
          | tup xs => simp [toPy]
          | _ => rw [hy] at this; cases this
    · obtain ⟨q, hq, rfl⟩ := List.mem_map.mp hp
      have := (okD_dp 20 q.2 q.1 (hm q hq) (e3 q hq)).2.2
      show un + 2 + (toPy q.2).depth < cLine
      omega
    · have es : ((qs.map fun q => (q.1, toPy q.2)).mergeSort (PySem.W.dataLe false (·.2))).map (·.1) = (qs.mergeSort (PySem.W.dataLe false fun q => toPy q.2)).map (·.1) := by
        rw [← List.map_mergeSort (r := PySem.W.dataLe false fun q : V × D => toPy q.2) (f := fun q : V × D => (q.1, toPy q.2)) fun _ _ _ _ => rfl, List.map_map]
        rfl
      have ed : srt (qs.map (·.2)) = (qs.mergeSort (PySem.W.dataLe false fun q => toPy q.2)).map (·.2) := (List.map_mergeSort (r := PySem.W.dataLe false fun q : V × D => toPy q.2) (f := fun q : V × D => q.2) fun _ _ _ _ => rfl).symm
      rw [es]
      rw [ed] at h1
      refine hf.new hh hp (hf.some h1) (Reps.ofQ fun z hz => e3 z ?_) h1
      exact (List.mergeSort_perm _ _).mem_iff.mp hz
  · rw [if_neg hs] at h1
    exact h1.elim
end DL
/-! DL13: enumerate of a list, a tuple, a text. -/
namespace DL
open PySem PySem.Spec L2 PyProof.Rows

section
variable {K : PySem.W.Frag}
theorem en_new {v : Value} {o : Obj} {Hs : Heap → Prop} (B : Begins v o Hs) : Meets (Builtin.«enumerate.__new__» ⟨[.type "enumerate", v], []⟩) (fun _ R s => Hs s.heap ∧
      R (.ok (.ret (.ref (s.heap.push o).objs.size))) { s with heap := (s.heap.push o).push { cls := .type "enumerate", data := .fields #[.none, .bool false, .ref s.heap.objs.size, rawInt 0, .none, .none] } }) :=
  .of_wp fun prog w A R s h => by
    obtain ⟨hp, gg, dd, tk, os⟩ := s
    obtain ⟨hH, h⟩ := h
    have hsub := sub_enumerate
    have it1 : ∀ {A' : Around} {E' : Value → Shared → Prop} {Q' : Value → Shared → Prop}, Q' (.ref hp.objs.size) ⟨hp.push o, gg, dd, tk, os⟩ → wpAny (model prog w) A' (pyIter v) Q' E' ⟨hp, gg, dd, tk, os⟩ := fun q => B.iter prog w _ _ ⟨hp, gg, dd, tk, os⟩ _ hH q
    wp_walk using it1
    refine wpAny_stack_any fun stk => wpAny_pure ?_; split
    · rename_i c _ _ _ _ _
      cases (c == Value.type "enumerate") <;> (wp_walk using it1; exact ⟨_, rfl, h⟩)
    · wp_walk using it1
      exact ⟨_, rfl, h⟩
theorem en_call {prog : Program} {w : World} {A : Around} {E : Value → Shared → Prop} {s : Shared} {v : Value} {o : Obj} {Hs : Heap → Prop} {Q : Value → Shared → Prop} (B : Begins v o Hs) (h1 : Hs s.heap)
    (h : ∀ h', IsEnum h' (s.heap.objs.size + 1) s.heap.objs.size 0 .none → h'.get? s.heap.objs.size = some o → (∀ b o, s.heap.get? b = some o → h'.get? b = some o) → Q (.ref (s.heap.objs.size + 1)) { s with heap := h' }) :
    wpAny (model prog w) A (call (.type "enumerate") [v]) Q E s := by
  refine callType_new F.called_enumerate (by decide) (F.typeCall_enumerate_1 _) (F.newCall_enumerate_1 _) (fun obj => F.args_object_init_2 obj _) F.entry_enumerate_new (en_new B) ⟨h1, ?_⟩
  have hz : (s.heap.push o).objs.size = s.heap.objs.size + 1 := Heap.size_push ..
  show _ ∧ _
  rw [hz]
  have he : IsEnum ((s.heap.push o).push { cls := .type "enumerate", data := .fields #[.none, .bool false, .ref s.heap.objs.size, rawInt 0, .none, .none] }) (s.heap.objs.size + 1) s.heap.objs.size 0 .none := by
    have q := Heap.get?_push_size (s.heap.push o) (o := { cls := .type "enumerate", data := .fields #[.none, .bool false, .ref s.heap.objs.size, rawInt 0, .none, .none] }) rfl
    rw [hz] at q
    exact q
  exact ⟨⟨_, he, rfl⟩, h _ he (Heap.get?_push_of_some _ (Heap.get?_push_size _ B.free)) fun b o' x => Heap.get?_push_of_some _ (Heap.get?_push_of_some _ x)⟩
/-- the values g 0 .. g (n - 1), each in a new pair with its place; they stand by the heap (G) -/
def ItE (G : Hp → Prop) (n : Nat) (g : Nat → Option V) : It :=
  ⟨fun i H => G H ∧ i < n, fun i H v H' => ∃ T x, v = .ref T ∧ H T = none ∧ H' = upd H T (.tup [.int (i : Nat), x]) ∧ g i = some x, fun i H => G H ∧ i = n⟩
/-- what an iterator at it draws where G stands -/
structure DrawV (K : PySem.W.Frag) (G : Hp → Prop) (it : Addr) (n : Nat) (g : Nat → Option V) (Sx : Nat → Heap → Prop) : Prop where
  draws : ∀ (X : Cx) (pins : List (Addr × Obj)) (σ : L2.St) (H : Hp) (s : Shared), X.K = K → X.calm = true → Inv X pins σ H s → G H → ∃ (fp : List Addr) (P : Nat → Value → Prop) (S' : Nat → Heap → Prop), Draws X.prog X.w X.A.in1 it fp n P S' ∧ (∀ i, Sx i s.heap → S' i s.heap) ∧ (∀ i h, S' i h → Sx i h) ∧ (∀ e, e ≠ it → (∃ o, s.heap.get? e = some o ∧ o.cls = .type "enumerate") → e ∉ fp) ∧ ∀ i u, P i u → ∃ x, RelV x u ∧ g i = some x
  obj : ∀ i h, Sx i h → ∃ o, h.get? it = some o ∧ ∀ v, o.data ≠ .cell v
  keep : ∀ i h h', Sx i h → (∀ o, h.get? it = some o → h'.get? it = some o) → Sx i h'
theorem turn_en {P : Program} {w : World} {elts : List Expr} {kk : Nat} {tpos : Pos} {G : Hp → Prop} {e it : Addr} {n : Nat} {g : Nat → Option V} {Sx : Nat → Heap → Prop} (D : DrawV K G it n g Sx) :
    Turn P w K (.Tuple elts kk tpos) (ItE G n g) [e, it] e (fun i h => (∃ old, IsEnum h e it ((i : Nat) : Int) old) ∧ Sx i h ∧ e ≠ it) where
  mem := List.mem_cons_self
  obj := fun i h ⟨⟨old, he⟩, hs, _⟩ b hb => (show b = e ∨ b = it by simpa using hb).elim (fun z => by rw [z]; exact ⟨_, he, fun v q => nomatch q⟩) fun z => by rw [z]; exact D.obj i h hs
  keep := fun i h h' ⟨⟨old, he⟩, hs, hne⟩ k => ⟨⟨old, k e (by simp) _ he⟩, D.keep i h h' hs fun o q => k it (by simp) o q, hne⟩
  item := by
    intro X hP hw hK hc i pins s σ H E I hf st hg
    obtain ⟨⟨old, he⟩, hs, hne⟩ := st
    obtain ⟨fp, Pv, S', dr, to, from', nf, pv⟩ := D.draws X pins σ H s hK hc I hg.1
    subst hP hw hK
    have hel : e < s.heap.objs.size := Heap.lt_size he
    have hil : it < s.heap.objs.size := by obtain ⟨o, q, _⟩ := D.obj i _ hs; exact Heap.lt_size q
    refine wpAny_pyNext_enum_itemD dr he (to i hs) hg.2 hne (nf e hne ⟨_, he, rfl⟩) fun u h' tk hu ho hs' hT hsz hk => ⟨_, rfl, ?_⟩
    obtain ⟨x, ru, hx⟩ := pv i u hu
    refine wpAny_letOwnedTupleGo_enum (s := { s with heap := h', toks := tk + 1 }) ho fun h2 he' sb => ?_
    have hT2 : h2.get? s.heap.objs.size = some { cls := .type "tuple", data := .seq #[.int i tk, u] } := (sb.2 _ (Nat.ne_of_gt hel)).trans hT
    have I1 : Inv X pins σ (upd H s.heap.objs.size (.tup [.int (i : Nat), x])) { s with heap := h2, toks := tk + 1 } :=
      I.turnedNew (ch := [e, it]) (fun b ob hb q => (sb.2 b (fun z => hb (by simp [z]))).trans (hk b ob (fun z => hb (by simp [z])) (fun z => hb (by simp [z])) q)) hf (Nat.le_refl _) ⟨by show 2 ≤ sizeLine; decide, [.int i tk, u], .cons ⟨_, rfl⟩ (.cons ru .nil), ⟨_, hT2, rfl, _, rfl⟩⟩
    refine ⟨.ref s.heap.objs.size, _, I1, rfl, ⟨_, x, rfl, I.hok.fresh (Nat.le_refl _), rfl, hx⟩, ⟨⟨u, ?_⟩, D.keep _ _ _ (from' _ _ hs') fun o q => (sb.2 it (Ne.symm hne)).trans q, hne⟩, fun b hb => ?_⟩
    · rw [show ((i + 1 : Nat) : Int) = (i : Int) + 1 by omega]; exact he'
    · rw [upd_ne (Nat.ne_of_lt ((show b = e ∨ b = it by simpa using hb).elim (fun z => by rw [z]; exact hel) fun z => by rw [z]; exact hil))]
      exact (hf b hb).1
  done := by
    intro X hP hw hK hc i pins s σ H E I hf st hg
    obtain ⟨⟨old, he⟩, hs, hne⟩ := st
    obtain ⟨fp, Pv, S', dr, to, from', nf, pv⟩ := D.draws X pins σ H s hK hc I hg.1
    subst hP hw hK
    have hin : i = n := hg.2
    obtain ⟨f0, f1, f2, f3, f4, f5⟩ := hf it (by simp)
    exact wpAny_pyNext_enum_endD dr he (by rw [← hin]; exact to i hs) fun h' eb => ⟨rfl, I.turned (t' := s.toks) (fun b o hb q => eb b o hb q) f0 f1 f3 f4 f5⟩
  self := fun A i s Q E st h => let ⟨⟨_, he⟩, _⟩ := st; wpAny_pyIter_enum he h
/-! ### what is drawn of a list, a tuple, a text -/
theorem vals_back {vs : List V} {us : List Value} (r : Vals vs us) {i : Nat} {u : Value} (h : us[i]? = some u) : ∃ x, RelV x u ∧ vs[i]? = some x := by
  have hi : i < vs.length := by rw [r.length]; exact (List.getElem?_eq_some_iff.mp h).1
  obtain ⟨u', h1, h2⟩ := r.get (List.getElem?_eq_getElem hi)
  rw [h] at h1
  cases h1
  exact ⟨_, h2, List.getElem?_eq_getElem hi⟩
theorem draw_list {a it : Addr} (hne : a ≠ it) {vs : List V} : DrawV K (fun H => SqL K H a vs) it vs.length (fun i => vs[i]?) (fun i h => h.IsListIter it a i) where
  draws := fun X pins σ H s hK hc I hq => by
    subst hK
    obtain ⟨its, rv, pl, hz⟩ := I.list hq
    rw [rv.length]
    refine ⟨[it, a], _, fun i h => h.IsListIter it a i ∧ h.IsList a its.toArray, by simpa using Draws.list (A := X.A.in1) (I.ok.hd hc) it a hne its.toArray, fun i st => ⟨st, pl.isList⟩, fun i h st => st.1, fun e he ⟨o, ho, hcl⟩ hm => ?_, fun i u hu => vals_back rv (by simpa using hu)⟩
    have hm' : e = it ∨ e = a := by simpa using hm
    rcases hm' with z | z
    · exact he z
    · subst z
      obtain ⟨o', ho', hc', _⟩ := pl.isList
      rw [ho] at ho'
      cases ho'
      rw [hcl] at hc'
      exact absurd hc' (by decide)
  obj := fun i h ⟨o, e, c, d⟩ => ⟨o, e, fun v z => by rw [d] at z; cases z⟩
  keep := fun i h h' st k => st.at fun o e => k o e
theorem draw_tup {a it : Addr} (hne : a ≠ it) {vs : List V} : DrawV K (fun H => SqT K H a vs) it vs.length (fun i => vs[i]?) (fun i h => h.IsTupleIter it a i) where
  draws := fun X pins σ H s hK hc I hq => by
    subst hK
    obtain ⟨its, rv, pl, hz⟩ := I.tuple hq
    rw [rv.length]
    refine ⟨[it, a], _, fun i h => h.IsTupleIter it a i ∧ h.IsTuple a its.toArray, by simpa using Draws.tuple (A := X.A.in1) (I.ok.hd hc) it a hne its.toArray, fun i st => ⟨st, pl⟩, fun i h st => st.1, fun e he ⟨o, ho, hcl⟩ hm => ?_, fun i u hu => vals_back rv (by simpa using hu)⟩
    have hm' : e = it ∨ e = a := by simpa using hm
    rcases hm' with z | z
    · exact he z
    · subst z
      obtain ⟨o', ho', hc', _⟩ := pl
      rw [ho] at ho'
      cases ho'
      rw [hcl] at hc'
      exact absurd hc' (by decide)
  obj := fun i h ⟨o, e, c, d⟩ => ⟨o, e, fun v z => by rw [d] at z; cases z⟩
  keep := fun i h h' st k => st.at fun o e => k o e
theorem draw_str {it : Addr} {x : Str} {t : Tok} : DrawV K (fun _ => True) it x.cps.size (fun i => (x.cps[i]?).map fun c => V.str ⟨#[c]⟩) (fun i h => h.IsStrIter it (strIterType x) x t i) where
  draws := fun X pins σ H s hK hc I hq => by
    refine ⟨[it], _, _, Draws.text (A := X.A.in1) (I.ok.hd hc) it x t, fun i st => st, fun i h st => st, fun e he _ hm => he (by simpa using hm), fun i u ⟨c, tk, h1, h2⟩ => ⟨.str ⟨#[c]⟩, ?_, by rw [h1]; rfl⟩⟩
    subst h2
    exact ⟨tk, rfl⟩
  obj := fun i h ⟨o, e, c, d⟩ => ⟨o, e, fun v z => by rw [d] at z; cases z⟩
  keep := fun i h h' ⟨o, e, r⟩ k => ⟨o, k o e, r⟩
/-! ### for i, x in enumerate(e) -/
/-- the pairs -/
def enD (i : Nat) : List D → List D
  | [] => []
  | d :: ds => .tup [.int (i : Nat), d] :: enD (i + 1) ds
theorem enD_len : ∀ (ds : List D) (i : Nat), (enD i ds).length = ds.length
  | [], _ => rfl
  | d :: ds, i => by show (enD (i + 1) ds).length + 1 = _; rw [enD_len ds]; rfl
theorem enD_at : ∀ {ds : List D} {j i : Nat} {p : D}, (enD j ds)[i]? = some p → ∃ d, ds[i]? = some d ∧ p = .tup [.int ((j + i : Nat) : Int), d]
  | [], _, _, _, h => by simp [enD] at h
  | d :: ds, j, 0, p, h => by
    have h' : some (D.tup [.int (j : Nat), d]) = some p := h
    cases h'
    exact ⟨d, rfl, rfl⟩
  | d :: ds, j, i + 1, p, h => by
    have h' : (enD (j + 1) ds)[i]? = some p := h
    obtain ⟨d', h1, h2⟩ := enD_at h'
    exact ⟨d', h1, by rw [h2, show j + 1 + i = j + (i + 1) by omega]⟩
theorem walks_en {G : Hp → Prop} {g : Nat → Option V} {ds : List D} {W : Wd} {H : Hp} (hG : ∀ (W' : Wd) (H' : Hp), Ext W W' H H' → G H') (hg : ∀ (W' : Wd) (H' : Hp), Ext W W' H H' → ∀ (i : Nat) (d : D) (x : V), ds[i]? = some d → g i = some x → Rep K W' H' x d) : Walks K (ItE G ds.length g) (enD 0 ds) W H := by
  intro W1 H1 st e hh
  refine ⟨⟨hG W1 H1 e, by rw [enD_len]⟩, fun i p hp => ?_⟩
  obtain ⟨d, hd, rfl⟩ := enD_at hp
  refine ⟨⟨hG W1 H1 e, (List.getElem?_eq_some_iff.mp hd).1⟩, fun x H' ⟨T, y, e1, e2, e3, e4⟩ => ?_⟩
  subst e1 e3
  have ry := hg W1 H1 e i d y hd e4
  refine ⟨W1, Ext.new1 e2, hh.new1 e2, Rep.newT hh e2 (vs := [.int (i : Nat), y]) ⟨_, _, rfl, by rw [Nat.zero_add]; rfl, _, _, rfl, ry, rfl⟩ (by simp)⟩
end
section
variable {X : Cx} {E : St → XK} {σd : List Sl} {e : Expr} {me : M D} {p pos tpos : Pos} {elts : List Expr} {kk : Nat}
/-- any that is walked: what it is walked as -/
def EnQ (K : PySem.W.Frag) (R : It → Hp → Prop) (us : List V) (H1 : Hp) : Prop := ∃ x, us = [x] ∧ ((∃ a vs, x = .ref a ∧ SqL K H1 a vs ∧ R (ItE (fun H => SqL K H a vs) vs.length fun i => vs[i]?) H1) ∨ (∃ a vs, x = .ref a ∧ SqT K H1 a vs ∧ R (ItE (fun H => SqT K H a vs) vs.length fun i => vs[i]?) H1) ∨
  ∃ z : Str, x = .str z ∧ R (ItE (fun _ => True) z.cps.size fun i => (z.cps[i]?).map fun c => V.str ⟨#[c]⟩) H1)
def iEn (K : PySem.W.Frag) (ta : TA) : TI := fun σ H R => ta σ H (EnQ K R)
theorem pi_en {ta : TA} (hg : Gl X "enumerate") (hm : X.mg "enumerate" = none) (he : PA X [e] ta) (hs : starEach [e] X.env = [(false, eval e X.env)]) : PI X (.Tuple elts kk tpos) (.Call (.Name "enumerate" p) [e] [] pos) (iEn X.K ta) := by
  refine ⟨fun pins s σ H R I h => Call_ (ld_blt I hg hm boot_enumerate (PyProof.Rows.callWith_type1 (thn (he.run pos pins s σ H _ I h) fun us s1 ⟨vs, H1, I1, r1, q1⟩ => ?_) hs rfl))⟩
  obtain ⟨x, rfl, q⟩ := q1
  obtain ⟨u, rfl, rx⟩ := vals1 r1
  have fp : ∀ (h' : Heap), (∀ b o, s1.heap.get? b = some o → h'.get? b = some o) → ∀ b ∈ [s1.heap.objs.size + 1, s1.heap.objs.size], FpOk X pins H1 b := fun h' hk b hb => by
    have hle : s1.heap.objs.size ≤ b := (show b = s1.heap.objs.size + 1 ∨ b = s1.heap.objs.size by simpa using hb).elim (fun z => by rw [z]; exact Nat.le_add_right _ _) fun z => by rw [z]; exact Nat.le_refl _
    exact I1.fpOk hle (I1.hok.fresh hle)
  rcases q with ⟨a, vs, rfl, hq, q⟩ | ⟨a, vs, rfl, hq, q⟩ | ⟨z, rfl, q⟩
  · cases rx
    obtain ⟨its, rv, pl, hz⟩ := I1.list hq
    have hal : a < s1.heap.objs.size := by obtain ⟨o, ho, _⟩ := pl.isList; exact Heap.lt_size ho
    refine en_call (begins_list a its.toArray) pl.isList fun h' hen hit hk => wpAny_pyIter_enum hen ?_
    have I2 : Inv X pins σ H1 { s1 with heap := h' } := I1.kept (t' := s1.toks) hk
    exact ⟨s1.heap.objs.size + 1, _, _, _, H1, rfl, I2, turn_en (draw_list (Nat.ne_of_lt hal)), ⟨⟨.none, hen⟩, ⟨_, hit, rfl, rfl⟩, Nat.succ_ne_self _⟩, fp h' hk, q⟩
  · cases rx
    obtain ⟨its, rv, pl, hz⟩ := I1.tuple hq
    have hal : a < s1.heap.objs.size := by obtain ⟨o, ho, _⟩ := pl; exact Heap.lt_size ho
    refine en_call (begins_tuple a its.toArray) pl fun h' hen hit hk => wpAny_pyIter_enum hen ?_
    have I2 : Inv X pins σ H1 { s1 with heap := h' } := I1.kept (t' := s1.toks) hk
    exact ⟨s1.heap.objs.size + 1, _, _, _, H1, rfl, I2, turn_en (draw_tup (Nat.ne_of_lt hal)), ⟨⟨.none, hen⟩, ⟨_, hit, rfl, rfl⟩, Nat.succ_ne_self _⟩, fp h' hk, q⟩
  · obtain ⟨t, rfl⟩ := rx
    refine en_call (begins_text z t) trivial fun h' hen hit hk => wpAny_pyIter_enum hen ?_
    have I2 : Inv X pins σ H1 { s1 with heap := h' } := I1.kept (t' := s1.toks) hk
    exact ⟨s1.heap.objs.size + 1, _, _, _, H1, rfl, I2, turn_en draw_str, ⟨⟨.none, hen⟩, ⟨_, hit, rfl, rfl⟩, Nat.succ_ne_self _⟩, fp h' hk, q⟩
def enW (d : D) : M (List D) := asW d >>= fun ds => pure (enD 0 ds)
/-- enumerate(e): e a list, a tuple, a text -/
theorem di_en (hg : Gl X "enumerate") (hm : X.mg "enumerate" = none) (he : DE X E σd e me) (hs : starEach [e] X.env = [(false, eval e X.env)]) : DI X E σd (.Tuple elts kk tpos) (.Call (.Name "enumerate" p) [e] [] pos) (me >>= enW) := by
  refine ⟨pi_imp (pi_en hg hm (pa_cons he.pe pa_nil hs) hs) fun σ H R ⟨W, st, hh, hs, h⟩ => tD_run hh hs h fun d v W1 H1 st1 e1 hh1 hs1 r1 h1 => ?_⟩
  refine ⟨v, rfl, ?_⟩
  cases d with
  | lst xs =>
    have h2 := After.pure' (a := enD 0 xs) h1 hh1
    obtain ⟨a, vs, rfl, nu, ha, hz, r⟩ := r1
    refine .inl ⟨a, vs, rfl, SqL.of ha, ?_⟩
    rw [r.length]
    exact h2 (by rw [enD_len]; exact hz) _ (walks_en (fun W' H' e' => SqL.of (e'.at nu ha).2) fun W' H' e' i d x q1 q2 => by
      obtain ⟨y, q3, q4⟩ := (r.ext e').get q1
      rw [q2] at q3
      cases q3
      exact q4)
  | tup xs =>
    have h2 := After.pure' (a := enD 0 xs) h1 hh1
    obtain ⟨a, vs, rfl, ha, hz, r⟩ := r1
    have sq : ∀ (W' : Wd) (H' : Hp), Ext W1 W' H1 H' → SqT X.K H' a vs := fun W' H' e' => by
      rcases ha with ⟨nu, ha⟩ | ha
      · exact SqT.of (e'.at nu ha).2
      · rcases ha with ha | ha
        · rcases ha with ha | ⟨o, ha⟩ <;> cases ha
        · exact .inr ha
    refine .inr (.inl ⟨a, vs, rfl, sq W1 H1 Ext.refl, ?_⟩)
    rw [r.length]
    exact h2 (by rw [enD_len]; exact hz) _ (walks_en sq fun W' H' e' i d x q1 q2 => by
      obtain ⟨y, q3, q4⟩ := (r.ext e').get q1
      rw [q2] at q3
      cases q3
      exact q4)
  | str cs =>
    have h2 := After.pure' (a := enD 0 (cs.map fun c => D.str [c])) h1 hh1
    obtain ⟨rfl, ho⟩ := r1
    refine .inr (.inr ⟨mkS cs, rfl, ?_⟩)
    have e0 : (mkS cs).cps.size = (cs.map fun c => D.str [c]).length := by simp
    rw [e0]
    refine h2 (by rw [enD_len, List.length_map]; exact (sOk_iff.mp ho).1) _ (walks_en (fun _ _ _ => trivial) fun W' H' e' i d x q1 q2 => ?_)
    rw [List.getElem?_map] at q1
    have e1 : (mkS cs).cps[i]? = cs[i]? := by simp
    rw [e1] at q2
    cases q : cs[i]? with
    | none => rw [q] at q1; cases q1
    | some c =>
      rw [q] at q1 q2
      cases q1
      cases q2
      exact ⟨rfl, sOk_iff.mpr ⟨by simp, fun c' hc' => by
        rw [List.mem_singleton.mp hc']
        exact (sOk_iff.mp ho).2 c (List.mem_of_getElem? q)⟩⟩
  | _ => exact h1.elim
end
end DL
namespace DL
open PySem PySem.Spec L2 PyProof.Rows
section
variable {X : Cx} {E : St → XK} {σd : List Sl} {e : Expr} {me : M D} {pos p1 p2 p3 : Pos} {k : Nat}
/-- e[::-1], a list -/
def dRevL (fin : List D → M D) (d : D) : M D := asLL d >>= fun xs => fin xs.reverse
theorem de_revL {fin : List D → M D} (hf : FinOk X.K fin) (he : DE X E σd e me) : DE X E σd (.Subscript e (.Slice none none (some (.UnaryOp .USub (.Constant (.int 1) k p1) p2)) p3) pos) (me >>= dRevL fin) :=
  ⟨pe_imp (pe_revL he.pe) fun σ H Q ⟨W, st, hh, hs, h⟩ => tD_run hh hs h fun d v W1 H1 st1 e1 hh1 hs1 r1 h1 => by
    obtain ⟨a, vs, xs, rfl, hq, hz, r, h2⟩ := asLL_run hh1 r1 h1
    exact ⟨a, vs, rfl, hq, fun p hp => hf.new hh1 hp (by rw [List.length_reverse]; exact hz) r.reverse h2⟩⟩
end
end DL
/-! DL14: what the derivations name; pairs of names set at once. -/
namespace DL
open PySem PySem.Spec L2 PyProof.Rows

def visC (sc : Scope) (x : Str) : Bool := match sc.names.lookup x with
  | some .local => true
  | some .cell => true
  | some .free => true
  | _ => false
theorem visB {sc : Scope} {x : Str} (h : visC sc x = true) : Vis sc x := by
  unfold visC at h
  unfold Vis
  split at h
  · exact .inl (by assumption)
  · exact .inr (.inl (by assumption))
  · exact .inr (.inr (by assumption))
  · cases h
def locC (sc : Scope) (x : Str) : Bool := match sc.names.lookup x with
  | some .local => true
  | some .cell => true
  | _ => false
theorem locB {sc : Scope} {x : Str} (h : locC sc x = true) : L2.Loc sc x := by
  unfold locC at h
  unfold L2.Loc
  split at h
  · exact .inl (by assumption)
  · exact .inr (by assumption)
  · cases h
theorem hu65 {k : Nat} {A : Around} (r : Room k A) : A.units + 65 < cLine := by
  have := r.un
  omega
theorem hu64 {k : Nat} {A : Around} (r : Room k A) : A.units + 64 < cLine := by
  have := r.un
  omega
section
variable {X : Cx} {E : XK} {σd : List Sl} {N T : Type} {eN : N → List Sl} {eT : T → List Sl} {ss : List Stmt} {pos px py pt pt2 : Pos} {a b : Expr} {ma mb : M D} {x y : Str}
/-- x, y = a, b: plain names -/
theorem db_par {kt k2 : Nat} {mr : D → D → M (Fl N T)} (i j : Nat) (ha : DE X (fun _ => E) σd a ma) (hb : DE X (fun _ => E) σd b mb) (hc : X.calm = true) (hN : X.N.Nodup) (hi : X.N[i]? = some x) (hj : X.N[j]? = some y) (hij : i ≠ j)
    (hx : X.env.scope.names.lookup x = some .local) (hy : X.env.scope.names.lookup y = some .local) (s1 : starEach [a, b] X.env = (false, eval a X.env) :: starEach [b] X.env) (s2 : starEach [b] X.env = (false, eval b X.env) :: starEach [] X.env)
    (hw : swappedStores [.Tuple [.Name x px, .Name y py] kt pt] (.Tuple [a, b] k2 pt2) X.env = pure (some [x, y])) (hs : swapsWithSole [.Tuple [.Name x px, .Name y py] kt pt] (.Tuple [a, b] k2 pt2) pos.line X.env = pure false)
    (hr : ∀ d e, DB X E ((σd.set i (.val d)).set j (.val e)) ss eN eT (mr d e)) :
    DB X E σd (.Assign [.Tuple [.Name x px, .Name y py] kt pt] (.Tuple [a, b] k2 pt2) pos :: ss) eN eT (ma >>= fun d => mb >>= fun e => mr d e) :=
  ⟨pss_imp (pss_cons (ps_par (i := i) (j := j) hc hN hi hj hij hx hy (pa_cons ha.pe (pa_cons hb.pe pa_nil s2) s1) hw hs) (pss_ex fun q : D × D => (hr q.1 q.2).pss)) fun Dn σ H ⟨W, st, hh, hs, h⟩ =>
    tD_run (E := fun _ => E) hh hs h fun d v W1 H1 st1 e1 hh1 hs1 r1 h1 => tD_run (E := fun _ => E) hh1 hs1 h1 fun d2 v2 W2 H2 st2 e2 hh2 hs2 r2 h2 => ⟨v, v2, rfl, (d, d2), W2, st2, hh2, (hs2.put i (r1.ext e2)).put j r2, h2⟩⟩
end
end DL
namespace DL
open PySem PySem.Spec L2 PyProof.Rows
section
variable {X : Cx} {E : XK} {σd : List Sl} {N T : Type} {eN : N → List Sl} {eT : T → List Sl} {ss : List Stmt} {pos : Pos} {tg e : Expr} {me : M D}
/-- target = e, the target taken apart -/
theorem db_asg {Pp : Type} {dec : D → Option Pp} {up : Pp → List Sl → List Sl} {g : TG} {ix : List Nat} {mr : Pp → M (Fl N T)} (he : DE X (fun _ => E) σd e me) (hg : GOk X.K g ix dec up) (hp : PG X tg g) (hs : swapsWithSole [tg] e pos.line X.env = pure false) (hw : swappedStores [tg] e X.env = pure none)
    (h1 : (assignEach [tg] X.env).map (·.2) = [assign tg X.env]) (hr : ∀ p, DB X E (up p σd) ss eN eT (mr p)) : DB X E σd (.Assign [tg] e pos :: ss) eN eT (me >>= fun d => ofO (dec d) >>= fun p => mr p) :=
  ⟨pss_imp (pss_cons (ps_asg he.pe hp hs hw h1) (pss_ex fun p => (hr p).pss)) fun Dn σ H ⟨W, st, hh, hs, h⟩ =>
    tD_run (E := fun _ => E) hh hs h fun d v W1 H1 st1 e1 hh1 hs1 r1 h1 => by
      obtain ⟨p, q, h2⟩ := ofO_run h1
      exact hg.run W1 H1 st1 σd σ d v p _ hh1 hs1 r1 q fun σ' hs' _ => ⟨p, W1, st1, hh1, hs', h2⟩⟩
end
end DL
set_option maxHeartbeats 2000000
/-! DH1: while an exception is handled: a list, a tuple to its end. -/
namespace DH
open PySem PySem.Spec PyProof.Rows L2 HotX

section
variable {prog : Program} {w : World} {A : Around} {E : Value → Shared → Prop} {s : Shared}
/-- the iterator is not the exception -/
theorem it_ne {h : Heap} {it x1 : Addr} {o o1 : Obj} {a b : Value} {vs1 : Array Value} (ho : h.get? it = some o) (hd : o.data = .fields #[a, b]) (h1 : h.get? x1 = some o1) (d1 : o1.data = .fields vs1) (c1 : vs1[2]? = some .none) : x1 ≠ it := fun e => by
  subst e
  rw [ho] at h1
  cases h1
  rw [hd] at d1
  cases d1
  simp at c1
theorem list_end_hot {it l x1 : Addr} {i : Nat} {items : Array Value} {Q : Option Value → Shared → Prop} (hot : HotAt A x1 s.heap) (hit : s.heap.IsListIter it l i) (hl : s.heap.IsList l items) (hx : items[i]? = none)
    (hQ : ∀ h', Heap.ExtBut it s.heap h' → Q none { s with heap := h' }) : wpAny (model prog w) A (pyNext (.ref it)) Q E s := by
  obtain ⟨o, ho, hc, hd⟩ := id hit
  obtain ⟨ol, hol, _, nl, hdl⟩ := hl
  obtain ⟨hh, o1, vs1, h1, d1, c1⟩ := hot
  have ne := it_ne ho hd h1 d1 c1
  unfold pyNext
  refine wpAny_bind (wpAny_attempt (wpAny_callSpecial?_slot (name := Str.ofString "__next__") hit.typeIs slot_listiter_next (wpAny_call_entry slot_listiter_next hit.typeIs entry_listiter_next ?_ (args_listiter_next _))))
  show wpAny _ _ (field (.ref it) 0 >>= _) _ _ s
  refine wpAny_bind (wpAny_field ho hd (x := .ref l) rfl ?_)
  show wpAny _ _ (if (Value.ref l == Value.none) = true then _ else _) _ _ s
  rw [if_neg (show ¬ ((Value.ref l == Value.none) = true) from Bool.false_ne_true)]; show wpAny _ _ (field (.ref it) 1 >>= _) _ _ s
  refine wpAny_bind (wpAny_field ho hd (x := .int i 0) rfl ?_); show wpAny _ _ (seqItems? (.ref l) >>= _) _ _ s
  refine wpAny_bind (wpAny_seqItems hol hdl ?_); simp only [Int.toNat_natCast, hx]
  refine wpAny_bind (wpAny_rule (wpAny_bind (wpAny_setField ho hd (by simp) ?_))); show wpAny _ _ (newExc (.type "StopIteration") [] >>= _) _ _ _
  refine wpAny_bind ?_; simp only [newExc, newTuple]; refine wpAny_bind (wpAny_newObj_type ?_ (by size_fits))
  refine wpAny_bind (m := firstArgMember _ _) (wpAny_of_eq (a := Value.none) (by first | rfl | (simp only [firstArgMember]; rfl)) ?_); refine wpAny_newObj_type ?_ (by size_fits)
  have h1u := (Heap.get?_update_other (a := it) s.heap (Obj.mapFields (·.setIfInBounds 0 .none)) (Ne.symm ne)).trans h1
  refine raiseNew_hot ⟨hh, o1, vs1, Heap.get?_push_of_some _ (Heap.get?_push_of_some _ h1u), d1, c1⟩ (Nat.ne_of_lt (Heap.lt_size (Heap.get?_push_of_some _ h1u))) (Heap.get?_push_size _ rfl) rfl (by first | (simp; done) | (simp; omega) | (simp only [Array.size_append]; simp; omega)) ?_
  refine wpAny_bind (wpAny_isInstance (T := "StopIteration") (b := true) ⟨_, Heap.get?_update_self _ (Heap.get?_push_size _ rfl) rfl, rfl⟩ isSubtype_stop ?_)
  refine wpAny_pure (hQ _ fun b o2 hb e => ?_)
  have e2 := (Heap.get?_update_other (a := it) s.heap (Obj.mapFields (·.setIfInBounds 0 .none)) (Ne.symm hb)).trans e
  rw [Heap.get?_update_other _ _ (Nat.ne_of_gt (Heap.lt_size (Heap.get?_push_of_some _ e2)))]
  exact Heap.get?_push_of_some _ (Heap.get?_push_of_some _ e2)
theorem tup_end_hot {it t x1 : Addr} {i : Nat} {items : Array Value} {Q : Option Value → Shared → Prop} (hot : HotAt A x1 s.heap) (hit : IsTupIter s.heap it t i) (hl : IsTup s.heap t items) (hx : items[i]? = none)
    (hQ : ∀ h', Heap.ExtBut it s.heap h' → Q none { s with heap := h' }) : wpAny (model prog w) A (pyNext (.ref it)) Q E s := by
  obtain ⟨o, ho, hc, hd⟩ := id hit
  obtain ⟨ol, hol, _, nl, hdl⟩ := hl
  obtain ⟨hh, o1, vs1, h1, d1, c1⟩ := hot
  have ne := it_ne ho hd h1 d1 c1
  unfold pyNext
  refine wpAny_bind (wpAny_attempt (wpAny_callSpecial?_slot (name := Str.ofString "__next__") hit.typeIs slot_tupleiter_next (wpAny_call_entry slot_tupleiter_next hit.typeIs entry_tupleiter_next ?_ (args_tupleiter_next _))))
  show wpAny _ _ (field (.ref it) 0 >>= _) _ _ s
  refine wpAny_bind (wpAny_field ho hd (x := .ref t) rfl ?_)
  show wpAny _ _ (if (Value.ref t == Value.none) = true then _ else _) _ _ s
  rw [if_neg (show ¬ ((Value.ref t == Value.none) = true) from Bool.false_ne_true)]; show wpAny _ _ (field (.ref it) 1 >>= _) _ _ s
  refine wpAny_bind (wpAny_field ho hd (x := .int i 0) rfl ?_); show wpAny _ _ (seqItems? (.ref t) >>= _) _ _ s
  refine wpAny_bind (wpAny_seqItems hol hdl ?_); simp only [Int.toNat_natCast, hx]
  refine wpAny_bind (wpAny_rule (wpAny_bind (wpAny_setField ho hd (by simp) ?_))); show wpAny _ _ (newExc (.type "StopIteration") [] >>= _) _ _ _
  refine wpAny_bind ?_; simp only [newExc, newTuple]; refine wpAny_bind (wpAny_newObj_type ?_ (by size_fits))
  refine wpAny_bind (m := firstArgMember _ _) (wpAny_of_eq (a := Value.none) (by first | rfl | (simp only [firstArgMember]; rfl)) ?_); refine wpAny_newObj_type ?_ (by size_fits)
  have h1u := (Heap.get?_update_other (a := it) s.heap (Obj.mapFields (·.setIfInBounds 0 .none)) (Ne.symm ne)).trans h1
  refine raiseNew_hot ⟨hh, o1, vs1, Heap.get?_push_of_some _ (Heap.get?_push_of_some _ h1u), d1, c1⟩ (Nat.ne_of_lt (Heap.lt_size (Heap.get?_push_of_some _ h1u))) (Heap.get?_push_size _ rfl) rfl (by first | (simp; done) | (simp; omega) | (simp only [Array.size_append]; simp; omega)) ?_
  refine wpAny_bind (wpAny_isInstance (T := "StopIteration") (b := true) ⟨_, Heap.get?_update_self _ (Heap.get?_push_size _ rfl) rfl, rfl⟩ isSubtype_stop ?_)
  refine wpAny_pure (hQ _ fun b o2 hb e => ?_)
  have e2 := (Heap.get?_update_other (a := it) s.heap (Obj.mapFields (·.setIfInBounds 0 .none)) (Ne.symm hb)).trans e
  rw [Heap.get?_update_other _ _ (Nat.ne_of_gt (Heap.lt_size (Heap.get?_push_of_some _ e2)))]
  exact Heap.get?_push_of_some _ (Heap.get?_push_of_some _ e2)
theorem HotAt.keep {x1 : Addr} {h h' : Heap} (hot : HotAt A x1 h) (k : ∀ o, h.get? x1 = some o → h'.get? x1 = some o) : HotAt A x1 h' := by
  obtain ⟨hh, o1, vs1, h1, d1, c1⟩ := hot
  exact ⟨hh, o1, vs1, k _ h1, d1, c1⟩
theorem unpack_hot {t x1 : Addr} {items : Array Value} {Q : List Value → Shared → Prop} (hot : HotAt A x1 s.heap) (ht : IsTup s.heap t items)
    (hQ : ∀ h', Heap.ExtBut s.heap.objs.size s.heap h' → Q items.toList { s with heap := h' }) : wpAny (model prog w) A (unpackItems (.ref t) items.size none) Q E s := by
  have hlt : t ≠ s.heap.objs.size := by obtain ⟨o, ho, _⟩ := ht; exact Nat.ne_of_lt (Heap.lt_size ho)
  have hx1 : x1 ≠ s.heap.objs.size := by obtain ⟨_, o, _, ho, _⟩ := hot; exact Nat.ne_of_lt (Heap.lt_size ho)
  unfold unpackItems
  refine wpAny_bind ?_
  unfold notIterableAtAll
  refine wpAny_bind (wpAny_specialOf ht.typeIs slot_tuple_iter.lookup (wpAny_pure ?_)); simp only [Bool.false_eq_true, if_false]
  refine wpAny_bind (wpAny_holding (iter_tuple ht (wpAny_bind (wpAny_holding (draw_tuple hlt items.size 0 _ _ ⟨_, Heap.get?_push_size _ rfl, rfl, rfl⟩ (ht.push _) (by omega) fun h₁ hit₁ hs₁ => ?_)))))
  rw [show List.take items.size (List.drop 0 items.toList) = items.toList by rw [List.drop_zero]; exact List.take_of_length_le (by simp), if_neg (by simp)]
  have ht₁ : IsTup h₁ t items := (ht.push _).extBut hs₁.extBut hlt
  refine wpAny_bind (wpAny_holding (tup_end_hot (HotAt.keep hot fun o e => hs₁.extBut x1 o hx1 (Heap.get?_push_of_some _ e)) hit₁ ht₁ (by simp) fun h₂ he₂ => ?_)); simp only [Option.isSome_none, Bool.false_eq_true, if_false]
  exact wpAny_pure (hQ h₂ fun b o hb e => he₂ b o hb (hs₁.extBut b o hb (Heap.get?_push_of_some _ e)))
theorem assign_tup_hot {env : Env} {elts : List Expr} {k : Nat} {pos : Pos} {t x1 : Addr} {items : Array Value} {Q : Unit → Shared → Prop} (hot : HotAt A x1 s.heap) (ht : IsTup s.heap t items) (hn : (assignEach elts env).length = items.size) (hstar : (assignEach elts env).findIdx? (·.1) = none)
    (h : ∀ h', Heap.ExtBut s.heap.objs.size s.heap h' → wpAny (model prog w) A (assignInOrder ((assignEach elts env).map (·.2)) items.toList) Q E { s with heap := h' }) : wpAny (model prog w) A (assign (.Tuple elts k pos) env (.ref t)) Q E s := by
  rw [assign_Tuple]
  refine wpAny_bind (wpAny_standAt ?_)
  unfold unpack
  rw [hn, hstar]
  exact wpAny_bind (wpAny_holding (unpack_hot hot ht h))
end
/-! ### the rules of the layer -/
section
variable {X : Cx}
/-- the handled exception p stands where the pins do -/
theorem hotI {pins : List (Addr × Obj)} {σ : L2.St} {H : Hp} {s : Shared} {p : Addr × Obj} (h : L2H.Hot1 X.A p) (hp : p ∈ X.pn ++ pins) (I : Inv X pins σ H s) : HotAt X.A p.1 s.heap := by
  obtain ⟨hh, v1, e1, c1⟩ := h
  exact ⟨hh, p.2, v1, (I.pin p hp).1, e1, c1⟩
/-- (a, b, ..) = a tuple, while p is handled and pinned -/
def PGp (X : Cx) (p : Addr × Obj) (tg : Expr) (t : TG) : Prop := ∀ (pins : List (Addr × Obj)) (s : Shared) (σ : L2.St) (H : Hp) (v : V) (u : Value) (Q : L2.St → Hp → Prop), p ∈ X.pn ++ pins → Inv X pins σ H s → RelV v u → t v σ H Q →
  wpAny (model X.prog X.w) X.A (assign tg X.env u) (fun _ s' => ∃ σ' H', Inv X pins σ' H' s' ∧ Q σ' H') X.xe s
theorem pgp_tup {es : List Expr} {k : Nat} {t : TGs} {n : Nat} {pos : Pos} {p : Addr × Obj} (hot : L2H.Hot1 X.A p) (h : PGs X es t) (hn : (assignEach es X.env).length = n) (hst : (assignEach es X.env).findIdx? (·.1) = none) : PGp X p (.Tuple es k pos) (gTup X.K n t) := by
  intro pins s σ H v u Q hp I r hw
  obtain ⟨a, xs, e1, hq, hl, hw⟩ := hw
  subst e1
  cases r
  obtain ⟨its, rv, ht, hz⟩ := I.tuple hq
  refine assign_tup_hot (hotI hot hp I) ht (by simp [hn, ← hl, rv.length]) hst fun h' hx => ?_
  have I1 : Inv X pins σ H { s with heap := h' } := I.kept (t' := s.toks) fun b o e => hx b o (Nat.ne_of_lt (Heap.lt_size e)) e
  exact h.run pins _ σ H xs _ Q I1 (by simpa using rv) hw
end
end DH
set_option maxHeartbeats 2000000
/-! DH2: a list comprehension over a list, while the exception p is handled. -/
namespace DH
open PySem PySem.Spec PyProof.Rows L2 HotX

/-- one turn of an iterator, while p is handled and pinned -/
structure TurnP (p : Addr × Obj) (P : Program) (w : World) (K : PySem.W.Frag) (tg : Expr) (J : It) (fp : List Addr) (it : Addr) (tn : Nat → Heap → Prop) : Prop where
  obj : ∀ j h, tn j h → ∀ b ∈ fp, ∃ o, h.get? b = some o ∧ ∀ v, o.data ≠ .cell v
  keep : ∀ j h h', tn j h → (∀ b ∈ fp, ∀ o, h.get? b = some o → h'.get? b = some o) → tn j h'
  item : ∀ (Y : Cx), Y.prog = P → Y.w = w → Y.K = K → L2H.Hot1 Y.A p → ∀ (j : Nat) (pz : List (Addr × Obj)) (t : Shared) (τ : L2.St) (G : Hp) (EE : Value → Shared → Prop), p ∈ Y.pn ++ pz → Inv Y pz τ G t → (∀ b ∈ fp, FpOk Y pz G b) → tn j t.heap → J.go j G →
    wpAny (model P w) Y.A (pyNext (.ref it)) (fun r t1 => ∃ u, r = some u ∧ wpAny (model P w) Y.A (letOwnedTupleGo tg (.ref it) u) (fun _ t2 => ∃ x G', Inv Y pz τ G' t2 ∧ RelV x u ∧ J.yld j G x G' ∧ tn (j + 1) t2.heap ∧ ∀ b ∈ fp, G' b = none) EE t1) EE t
  done : ∀ (Y : Cx), Y.prog = P → Y.w = w → Y.K = K → L2H.Hot1 Y.A p → ∀ (j : Nat) (pz : List (Addr × Obj)) (t : Shared) (τ : L2.St) (G : Hp) (EE : Value → Shared → Prop), p ∈ Y.pn ++ pz → Inv Y pz τ G t → (∀ b ∈ fp, FpOk Y pz G b) → tn j t.heap → J.stop j G →
    wpAny (model P w) Y.A (pyNext (.ref it)) (fun r t1 => r = none ∧ Inv Y pz τ G t1) EE t
  self : ∀ (A : Around) (j : Nat) (t : Shared) (QQ : Value → Shared → Prop) (EE : Value → Shared → Prop), tn j t.heap → QQ (.ref it) t → wpAny (model P w) A (pyIter (.ref it)) QQ EE t
theorem turnP_list {p : Addr × Obj} {P : Program} {w : World} {K : PySem.W.Frag} {tg : Expr} (a it : Addr) : TurnP p P w K tg (Itl K a) [it] it (fun j h => h.IsListIter it a j) where
  obj := fun j h ⟨o, e, c, d⟩ b hb => ⟨o, by rw [List.mem_singleton.mp hb]; exact e, fun v z => by rw [d] at z; cases z⟩
  keep := fun j h h' st k => st.at fun o e => k it (List.mem_singleton.mpr rfl) o e
  item := by
    intro Y hP hw hK hot j pz t τ G EE hp J0 hf st hg
    subst hP hw hK
    obtain ⟨xs, x, hq, hx⟩ := hg
    obtain ⟨its, rv, pl, hz⟩ := J0.list hq
    obtain ⟨u, hu, ru⟩ := rv.get hx
    obtain ⟨f0, f1, f2, f3, f4, f5⟩ := hf it (List.mem_singleton.mpr rfl)
    refine wpAny_pyNext_list_item st pl.isList (x := u) (by simpa using hu) fun h' st' sb => ?_
    obtain ⟨o, e, c, d⟩ := id st'
    exact ⟨u, rfl, go_of (s := { t with heap := h' }) e c d (by decide) ⟨x, G, J0.turned (t' := t.toks) (fun b o hb e => (sb.2 b hb).trans e) f0 f1 f3 f4 f5, ru, ⟨rfl, fun ys hy => by rw [J0.list_inj hy hq]; exact hx⟩, st', fun b hb => (hf b hb).1⟩⟩
  done := by
    intro Y hP hw hK hot j pz t τ G EE hp J0 hf st hg
    subst hP hw hK
    obtain ⟨xs, hq, hx⟩ := hg
    obtain ⟨its, rv, pl, hz⟩ := J0.list hq
    obtain ⟨f0, f1, f2, f3, f4, f5⟩ := hf it (List.mem_singleton.mpr rfl)
    have hl := rv.length
    exact list_end_hot (hotI hot hp J0) st pl.isList (by simp; omega) fun h' eb => ⟨rfl, J0.turned (t' := t.toks) (fun b o hb e => eb b o hb e) f0 f1 f3 f4 f5⟩
  self := fun _ _ _ _ _ st h => wpAny_pyIter_listiter st h
section
variable {X : Cx} {p : Addr × Obj} {tg : Expr}
def PIEp (X : Cx) (p : Addr × Obj) (pins : List (Addr × Obj)) (σ : L2.St) (tg : Expr) (R : It → Hp → Prop) (itv : Value) (t : Shared) : Prop :=
  ∃ (it : Addr) (fp : List Addr) (tn : Nat → Heap → Prop) (J : It) (G : Hp), itv = .ref it ∧ Inv X pins σ G t ∧ TurnP p X.prog X.w X.K tg J fp it tn ∧ tn 0 t.heap ∧ (∀ b ∈ fp, FpOk X pins G b) ∧ R J G
structure PIp' (X : Cx) (p : Addr × Obj) (tg iter : Expr) (wi : TI) : Prop where
  run : ∀ (pins : List (Addr × Obj)) (s : Shared) (σ : L2.St) (H : Hp) (R : It → Hp → Prop), Inv X pins σ H s → wi σ H R → wpAny (model X.prog X.w) X.A (eval iter X.env) (fun v s1 => wpAny (model X.prog X.w) X.A (pyIter v) (PIEp X p pins σ tg R) X.xe s1) X.xe s
theorem pip_list {e : Expr} {te : TE} (he : PE X e te) : PIp' X p tg e (fun σ H R => te σ H fun v H1 => ∃ a, v = .ref a ∧ (∃ xs, SqL X.K H1 a xs) ∧ R (Itl X.K a) H1) := by
  refine ⟨fun pins s σ H R I h => thn (he.run pins s σ H _ I h) fun u s1 ⟨v, H1, I1, r1, a, ev, ⟨xs, hq⟩, q⟩ => ?_⟩
  subst ev
  cases r1
  obtain ⟨its, rv, pl, hz⟩ := I1.list hq
  refine wpAny_pyIter_list pl.isList ?_
  have I2 : Inv X pins σ H1 { s1 with heap := s1.heap.push { cls := .type "list_iterator", data := .fields #[.ref a, .int 0 0] } } := I1.kept (t' := s1.toks) fun b o e => Heap.get?_push_of_some _ e
  refine ⟨s1.heap.objs.size, [s1.heap.objs.size], _, _, H1, rfl, I2, turnP_list a _, ⟨_, Heap.get?_push_size _ rfl, rfl, rfl⟩, fun b hb => ?_, q⟩
  rw [List.mem_singleton.mp hb]
  exact I1.fpOk (Nat.le_refl _) (I1.hok.fresh (Nat.le_refl _))
/-- [elt for tg in iter if ..] while p is handled -/
theorem pe_lcP {elt iter : Expr} {ifs : List Expr} {scope : Scope} {own : List (Str × Nat)} {pos : Pos} {wi : TI} {g : TG} {tt : TT} {te : TE} (hot : L2H.Hot1 X.A p) (hpn : p ∈ X.pn) (hN : X.N.Nodup) (hi : PIp' X p tg iter wi) (ok : BlkOk X.N X.env.scope scope own)
    (hg : ∀ (s : Shared) (H : Hp) (C : Addr) (cl : List (Str × Addr)) (fp : List Addr), PGp (X.blk s H scope (compEnvC scope cl C X.env) fp) p tg g) (ht : ∀ (s : Shared) (H : Hp) (C : Addr) (cl : List (Str × Addr)) (fp : List Addr), PTs (X.blk s H scope (compEnvC scope cl C X.env) fp) ifs tt)
    (he : ∀ (s : Shared) (H : Hp) (C : Addr) (cl : List (Str × Addr)) (fp : List Addr), PE (X.blk s H scope (compEnvC scope cl C X.env) fp) elt te) (hs : ∀ x, foldedSetIterable iter X.env x = pure x) :
    PE X (.ListComp elt [⟨tg, iter, ifs, 0⟩] scope pos) (tLc wi g tt te (own.map (·.2))) := by
  refine ⟨fun pins s σ H Q I h => ?_⟩
  rw [eval_ListComp]
  have hfr : ∀ y ∈ scope.names, y.2 = .free → ∃ c, X.env.cells.lookup y.1 = some c := fun y hy e => (ok.free y hy e).elim (fun k => I.ok.has _ (.inl k)) fun k => I.ok.has _ (.inr k)
  refine wpAny_comprehension_free (use := none) rfl hs (closure_ok hfr) ok.kind (fun y hy e => by rw [ok.uniq y hy, e]) (thn (hi.run pins s σ H _ I h) fun xv s1 hx => thn hx fun itv s2 h2 => ?_)
  obtain ⟨it, fp, tn, J, H2, e, I2, T, st2, f2, q⟩ := h2
  subst e
  refine wpAny_newObj_type (newEnv_comp ?_) (by show 0 ≤ sizeLine; decide)
  generalize hD : s2.heap.objs.size = D
  obtain ⟨Wm, ⟨m0, w0⟩, turn⟩ := q D (I2.hok.fresh (Nat.le_of_eq hD))
  generalize hs3 : ({ s2 with heap := s2.heap.push { cls := .type "list", data := .seq ([] : List Value).toArray } } : Shared) = s3
  have I3 : Inv X pins σ (upd H2 D (.lst [])) s3 := by
    rw [← hs3]; refine I2.laid (t' := s2.toks) (fun b o e => Heap.get?_push_of_some _ e) (Nat.le_of_eq hD) ⟨Nat.zero_le _, [], 0, .nil, ?_⟩
    rw [← hD]; exact Heap.get?_push_size _ rfl
  have h3 : s3.heap = s2.heap.push { cls := .type "list", data := .seq ([] : List Value).toArray } := by rw [← hs3]
  have f3 : ∀ b ∈ fp, FpOk X pins (upd H2 D (.lst [])) b ∧ b < s3.heap.objs.size := fun b hb => by
    obtain ⟨o, e, _⟩ := T.obj _ _ st2 b hb
    have hlt := Heap.lt_size e
    exact ⟨⟨by rw [upd_ne (by rw [← hD]; exact Nat.ne_of_lt hlt)]; exact (f2 b hb).1, (f2 b hb).2⟩, by rw [h3, Heap.size_push]; exact Nat.lt_succ_of_lt hlt⟩
  have st3 : tn 0 s3.heap := T.keep _ _ _ st2 fun b _ o e => by rw [h3]; exact Heap.get?_push_of_some _ e
  have I4a := block_start I3 ok hN f3
  have pin3 := I3.pin p (List.mem_append_left _ hpn)
  have pg := hg s3 (upd H2 D (.lst [])) s3.heap.objs.size (cellsFrom (s3.heap.objs.size + 1) scope.names (cloFrom X.env.cells scope.names [])) fp
  have pt := ht s3 (upd H2 D (.lst [])) s3.heap.objs.size (cellsFrom (s3.heap.objs.size + 1) scope.names (cloFrom X.env.cells scope.names [])) fp
  have pe := he s3 (upd H2 D (.lst [])) s3.heap.objs.size (cellsFrom (s3.heap.objs.size + 1) scope.names (cloFrom X.env.cells scope.names [])) fp
  have nfp : ∀ b ∈ fp, (upd H2 D (.lst [])) b = none := fun b hb => (f3 b hb).1.1
  show codeAny _ _ (.compStart (.ListComp elt [⟨tg, iter, ifs, 0⟩] scope pos) 0 (.ref it) (.ref D) (compEnvC scope (cellsFrom (s3.heap.objs.size + 1) scope.names (cloFrom X.env.cells scope.names [])) s3.heap.objs.size X.env)) (compPost (model X.prog X.w) X.A X.xe none (EP X pins σ Q) (.ref D) s3.heap.objs.size) { s3 with heap := pushCells (s3.heap.push { cls := .type "dict", data := .dict #[] }) scope.names }
  generalize hce : compEnvC scope (cellsFrom (s3.heap.objs.size + 1) scope.names (cloFrom X.env.cells scope.names [])) s3.heap.objs.size X.env = ce at I4a pg pt pe ⊢
  have cL : ce.locals = s3.heap.objs.size := by subst hce; rfl
  generalize hH3 : upd H2 D (.lst []) = H3 at I3 I4a pg pt pe w0 nfp f3 pin3
  generalize hs4 : ({ s3 with heap := pushCells (s3.heap.push { cls := .type "dict", data := .dict #[] }) scope.names } : Shared) = s4 at I4a ⊢
  have up4 : ∀ b o, s3.heap.get? b = some o → s4.heap.get? b = some o := fun b o e => by rw [← hs4]; exact pushCells_keeps _ _ _ _ (Heap.get?_push_of_some _ e)
  have st4 : tn 0 s4.heap := T.keep _ _ _ st3 fun b _ o e => up4 b o e
  -- the exception stays in the block's sight
  have I4 : Inv (X.blk s3 H3 scope ce fp) [p] (wipe σ (own.map (·.2))) H3 s4 := I4a.pins_of fun r hr => by
    rw [List.mem_singleton.mp hr]
    refine ⟨up4 _ _ pin3.1, pin3.2.1, fun z => ?_, fun z => (List.mem_cons.mp (I3.stkSub p.1 z)).elim pin3.2.2.1 pin3.2.2.2.1, pin3.2.2.2.2⟩
    have hl := Heap.lt_size pin3.1
    have z' : p.1 = ce.locals := z
    rw [z', cL] at hl
    exact Nat.lt_irrefl _ hl
  have stat : ∀ {τ : L2.St} {G : Hp} {t : Shared}, Inv (X.blk s3 H3 scope ce fp) [p] τ G t → (∀ b ∈ fp, G b = none) → ∀ b ∈ fp, FpOk (X.blk s3 H3 scope ce fp) [p] G b := fun {τ G t} J0 hn b hb =>
    ⟨hn b hb, (J0.ok.exf b hb).1, J0.ok.exfs b hb, .inl hb, fun x c e => (J0.ok.exf b hb).2 x c e, fun r hr => by
      have hr' : r = p := List.mem_singleton.mp (show r ∈ [p] from hr)
      rw [hr']
      exact (f3 b hb).1.2.2.2.2.2 p (List.mem_append_left _ hpn)⟩
  have loop : codeAny (model X.prog X.w) X.A (.compLoop (.ListComp elt [⟨tg, iter, ifs, 0⟩] scope pos) 0 (.ref it) (.ref D) ce) (compPost (model X.prog X.w) X.A X.xe none (EP X pins σ Q) (.ref D) s3.heap.objs.size) s4 := by
    refine compLoop_any (fun n t => ∃ j G, Inv (X.blk s3 H3 scope ce fp) [p] (wipe σ (own.map (·.2))) G t ∧ tn j t.heap ∧ (∀ b ∈ fp, G b = none) ∧ Wm j n G) ?_ m0 ⟨0, H3, I4, st4, nfp, w0⟩
    rintro n s5 ⟨j, H5, I5, st5, n5, w5⟩
    rcases turn j n H5 w5 with ⟨stop, qq⟩ | ⟨go, Nx, hNx, step⟩
    · refine thnF (T.done (X.blk s3 H3 scope ce fp) rfl rfl rfl hot j [p] s5 _ H5 (fun _ _ => False) (by simp) I5 (stat I5 n5) st5 stop) fun r s6 ⟨hr, I6⟩ => ?_
      subst hr
      have I7 : Inv X pins σ H5 s6 := I3.call' (ch := fp) I6.os I6.base I6.hok I6.bare fun b hb => ⟨(f3 b hb).1.2.2.2.1, (f3 b hb).1.2.1, (f3 b hb).1.2.2.2.2.1, (f3 b hb).1.2.2.2.2.2⟩
      have nC : H5 s3.heap.objs.size = none := by have z : H5 ce.locals = none := I6.free; rw [cL] at z; exact z
      obtain ⟨m, hn, _⟩ := I6.loc
      have hn' : s6.heap.Ns ce.locals m := hn
      rw [cL] at hn'
      obtain ⟨g0, g1, g2, g3, g4, g5⟩ := I3.fpOk (Nat.le_refl _) nC
      exact ⟨m, hn', fun h2 sb => ⟨.ref D, H5, I7.turned (t' := s6.toks) (fun b o hb e => (sb.2 b hb).trans e) g0 g1 g3 g4 g5, rfl, qq⟩⟩
    · refine thnF (T.item (X.blk s3 H3 scope ce fp) rfl rfl rfl hot j [p] s5 _ H5 (fun _ _ => False) (by simp) I5 (stat I5 n5) st5 go) fun r s6 ⟨u, hr, h6⟩ => ?_
      subst hr
      refine thnF h6 fun _ s7 ⟨x, H7, I7, r7, y7, st7, n7⟩ => ?_
      have I7' := I7.pinned (stat I7 n7) (T.obj _ _ st7)
      refine thnF (pg _ s7 _ H7 x u _ (by simp) I7' r7 (step x H7 y7)) fun _ s8 ⟨σ8, H8, I8, hw8, q8⟩ => thnF (pt.run _ s8 σ8 H8 _ I8 q8) fun b s9 ⟨H9, I9, q9⟩ => ?_
      have fin : ∀ {t : Shared} {G : Hp}, Inv (X.blk s3 H3 scope ce fp) ([p] ++ pinsAt fp s7.heap) σ8 G t → Nx G → ∃ m, m < n ∧ ∃ j G, Inv (X.blk s3 H3 scope ce fp) [p] (wipe σ (own.map (·.2))) G t ∧ tn j t.heap ∧ (∀ b ∈ fp, G b = none) ∧ Wm j m G := fun {t G} J0 nx => by
        obtain ⟨m', hm, w'⟩ := hNx G nx
        have pin' : ∀ b ∈ fp, ∀ o, s7.heap.get? b = some o → t.heap.get? b = some o ∧ G b = none := fun b hb o e => let z := J0.pin (b, o) (List.mem_append_right _ (List.mem_append_right _ (mem_pinsAt hb e))); ⟨z.1, z.2.1⟩
        refine ⟨m', hm, j + 1, G, (J0.unpinned (pins := [p])).weak (by rw [← hw8, wipe_length]) (fun i v e => ?_), T.keep _ _ _ st7 fun b hb o e => (pin' b hb o e).1, fun b hb => ?_, w'⟩
        · rw [← hw8] at e; exact (wipe_some e).1
        · obtain ⟨o, e, _⟩ := T.obj _ _ st7 b hb; exact (pin' b hb o e).2
      cases b with
      | false => simp only [Bool.false_eq_true, if_false] at q9 ⊢; exact fin I9 q9
      | true =>
        simp only [if_true] at q9 ⊢
        refine thnF (pe.run _ s9 σ8 H9 _ I9 q9) fun z s10 ⟨yv, H10, I10, r10, acc, hD10, hz10, nx⟩ => app_ok (X := X.blk s3 H3 scope ce fp) I10 hD10 hz10 r10 fun s11 I11 => fin I11 nx
  exact codeAny_compStart_list loop (T.self X.A 0 _ _ _ st4 loop)
end
end DH
set_option maxHeartbeats 2000000
/-! DH3: a def called while an error is handled; isinstance of the error. -/
namespace DH
open PySem PySem.Spec PyProof.Rows L2 HotX DL

/-! ### isinstance of the handled error -/
theorem call_isP {X : Cx} {p : Addr × Obj} {Dc : Addr} (hp : p ∈ X.pn) (C : ExcC X.K Dc) (hz : Zc (.ref Dc) none p.2) (hf : ∃ vs, p.2.data = .fields vs) : CallR X (.builtin "isinstance") (rIsE X.K Dc p.1) := by
  rintro pins s σ H xs us Q I r ⟨c, cv, b, rfl, hcv, e, q⟩
  obtain ⟨u1, u2, rfl, rx, rt⟩ := vals2 r
  cases rx
  have ec := hcv _ rt
  subst ec
  have hget := (I.pin p (List.mem_append_left _ hp)).1
  obtain ⟨vs, hv⟩ := hf
  have J : PySem.W.InstAt s.heap p.1 p.2 Dc none := by
    obtain ⟨a, oc, od, oda, osl⟩ := p
    obtain ⟨h1, h2⟩ := hz
    dsimp only at h1 h2 hv hget
    subst h1 h2 hv
    exact ⟨hget, rfl, rfl, trivial⟩
  exact PySem.W.kia_one (PySem.W.handS_kitx_exc C.hg C.hk C.hs C.hd C.ha C.hn C.ht C.hm) I.kIn J e (fun z => nomatch z) fun tk => ⟨.bl b, H, I.kept (t' := tk) fun _ _ z => z, rfl, q⟩
/-- isinstance(e, C), C an own class: isE tells the answer -/
theorem de_isE {X : Cx} {E : DL.St → XK} {σd : List Sl} {p : Addr × Obj} {c y : Str} {b : Bool} {p1 p2 pos px : Pos} {i : Nat} {x : Str} (hp : p ∈ X.pn) (C : ExcC X.K (He.ga X.K c)) (hz : Zc (.ref (He.ga X.K c)) none p.2) (hf : ∃ vs, p.2.data = .fields vs)
    (hk : PySem.W.kitOne X.K (.ref (He.ga X.K c)) (.ref (He.ga X.K y)) = some b) (hg : Gl X "isinstance") (hm : X.mg "isinstance" = none) (hgy : Gl X y) (hmy : X.mg y = some (.ref (He.ga X.K y))) (hdy : (y == ("__debug__" : Str)) = false) (hi : σd[i]? = some (.val (.adr p.1))) (hN : X.N[i]? = some x) (hv : Vis X.env.scope x) (hd : (x == ("__debug__" : Str)) = false) (hcd : (x == ("__classdict__" : Str)) = false)
    (he : starEach [.Name x px, .Name y p2] X.env = [(false, eval (.Name x px) X.env), (false, eval (.Name y p2) X.env)]) (he2 : starEach [.Name y p2] X.env = [(false, eval (.Name y p2) X.env)]) : DE X E σd (.Call (.Name "isinstance" p1) [.Name x px, .Name y p2] [] pos) (pure (.bl b)) :=
  ⟨pe_imp (pe_callB (call_isP hp C hz hf) hg hm (by rfl) (pa_cons (pe_var hN hv hd hcd) (pa_cons (pe_glob hgy hmy (v := .ref (He.ga X.K y)) rfl hdy) pa_nil he2) (by rw [he, he2])) (by decide) (by decide) (by rw [he, he2]) (by rw [he2]; rfl)) fun σ H Q ⟨W, st, hh, hs, h⟩ => by
    obtain ⟨v, q1, q2⟩ := hs.val i _ hi
    exact ⟨v, q1, .ref (He.ga X.K y), .ref (He.ga X.K y), b, by rw [show v = .ref p.1 from q2], fun u r => r, hk, After.pure' h hh _ rfl⟩⟩

/-! ### a def that is called there -/
/-- the promise of a def of one parameter, the handled error its argument; c the error's class -/
structure FnP (P : Program) (w : World) (K : PySem.W.Frag) (mg : Str → Option Value) (base : Heap) (k : Nat) (f : Addr) (fd : FuncData) (x c : Str) (m : M D) : Prop where
  run : ∀ (A : Around) (outer : List Env) (s : Shared) (H : Hp) (args : Args) (u : Value) (Q : VK) (p : Addr × Obj) (W : Wd) (st : Store), L2H.RoomH k A → L2H.Hot1 A p → L2H.PinOk outer H s p → Zc (.ref (He.ga K c)) none p.2 → Env0 P w K mg base A outer s H → BindsTo s fd args [(x, u)] → u = .ref p.1 →
    Holds K W H st → Fin K W H (fun _ _ _ => False) (m st) Q → codeAny (model P w) A (.call (.ref f) args) (CR (L2N.CX P w) outer P w H s Q (fun _ _ _ => False)) s
section
variable {P : Program} {w : World} {K : PySem.W.Frag} {mg : Str → Option Value} {base : Heap} {x qual y c : Str} {params : Arguments} {body : List Stmt} {scope : Scope} {kws : List (Str × V)} {f : Addr} {fd : FuncData} {N : List Str} {k : Nat}
theorem fnP_of {T : Type} {eN : T → List Sl} {mB : M (Fl T Empty)} (F : FunD K x qual params body scope [] kws f fd) (S : FnScope N [y] scope)
    (hbody : ∀ (cdv : Value) (A : Around) (outer : List Env) (s : Shared) (H : Hp) (p : Addr × Obj), L2H.Hot1 A p → Zc (.ref (He.ga K c)) none p.2 → (∃ vs, p.2.data = .fields vs) → L2H.RoomH k (A.deeper (envOfC qual scope s.heap.objs.size f cdv)) →
      DB (L2H.cxH (L2N.CX P w) P w K mg base N qual scope f cdv A outer s H (fun _ _ _ => False) p) (fun _ _ _ => False) (startD N [.adr p.1]) body eN eE mB) : FnP P w K mg base (k + 1) f fd y c (mB >>= retM) := by
  obtain ⟨oc, od, dV, kV, doc, pm, an, cdv, ct, osl, rfl, lk, hcd, _, _⟩ := F.ex
  refine ⟨fun A outer s H args u Q p W st hr hot hpin hz e0 hb hu hh h => ?_⟩
  subst hu
  have KX : K.In s.heap := e0.mod.kin.keeps fun b o e => (e0.bs b o e).1
  have lim : s.heap.NoLimit := e0.mod.nolimit.keeps fun b o e => (e0.bs b o e).1
  have hk1 : ∀ z ∈ [(y, Value.ref p.1)], scope.names.lookup z.1 = some .local ∨ (scope.names.lookup z.1 = some .cell ∧ ((cellsFrom (s.heap.objs.size + 1) scope.names []).lookup z.1).isSome = true) := fun z hz => by
    rw [List.mem_singleton.mp hz]
    exact (S.par y List.mem_cons_self).imp id fun q => ⟨q, PySem.W.cellsFrom_some _ _ _ (.inl q)⟩
  refine codeAny_call_function hr.depth (KX _ _ lk) rfl S.co S.gen rfl (PySem.W.codeRec_of KX hcd) (hb _ _ _ _ (wpAny_newFunctionEnv_cells S.kind hk1 fun env he s1 xx => ?_))
  subst he
  refine ⟨lim.keeps xx.toInCall.keep, codeAny_func ?_⟩
  have ht := (hbody cdv A outer s H p hot hz (let ⟨_, vs, e, _⟩ := hot; ⟨vs, e⟩) (hr.deeper _)).pss
  have I : Inv (L2H.cxH (L2N.CX P w) P w K mg base N qual scope f cdv A outer s H (fun _ _ _ => False) p) [] (L2.start N [V.ref p.1]) H s1 := L2H.inv_startH (us := [.ref p.1]) (vs := [V.ref p.1]) S hpin e0 rfl (.cons rfl .nil) xx
  have hq : tDB K (startD N [.adr p.1]) (fun _ _ _ => False) eN eE mB { nx := fun _ H' => Q .non H', rt := Q } (L2.start N [V.ref p.1]) H := by
    refine ⟨W, st, hh, Slots.start (vs := [V.ref p.1]) (ds := [.adr p.1]) ⟨_, _, rfl, rfl, rfl⟩, (After.bind h).mono fun fl W1 H1 st1 _ e1 hh1 h1 => ?_⟩
    cases fl with
    | next z => exact fun σ' _ => After.pure' h1 hh1 _ rfl
    | ret d => exact fun v r => After.pure' h1 hh1 v r
    | brk t => exact t.elim
    | cnt t => exact t.elim
  refine wpAny_mono (ht.run [] s1 (L2.start N [V.ref p.1]) H _ I hq) (fun fl s' hs => ?_) fun e s' hs => hs
  cases fl with
  | ret u => obtain ⟨v, σ', H', J, rv, q⟩ := hs; exact ⟨v, H', J.os, J.bare, J.base, J.hok, rv, q⟩
  | next => obtain ⟨σ', H', J, q⟩ := hs; exact ⟨V.non, H', J.os, J.bare, J.base, J.hok, (rfl : RelV V.non Value.none), q⟩
  | brk => obtain ⟨_, _, _, q⟩ := hs; exact False.elim q
  | cont => obtain ⟨_, _, _, q⟩ := hs; exact False.elim q
end
section
variable {X : Cx} {p : Addr × Obj} {k i : Nat} {f : Addr} {fd : FuncData} {x y c e : Str} {m : M D} {q pe pos : Pos}
/-- f(e) in the suite -/
theorem pe_callP (hp : p ∈ X.pn) (hot : L2H.Hot1 X.A p) (hz : Zc (.ref (He.ga X.K c)) none p.2) (F : FnP X.prog X.w X.K X.mg X.base k f fd y c m) (hr : L2H.RoomH k X.A) (hg : Gl X x) (hm : X.mg x = some (.ref f)) (hk : PySem.W.keepIn X.K (.ref f) = true) (hb : Binds X.K fd [y] []) (hN : X.N[i]? = some e) (hv : Vis X.env.scope e) (hd : (e == ("__debug__" : Str)) = false) (hcd : (e == ("__classdict__" : Str)) = false)
    (hdb : (x == ("__debug__" : Str)) = false) (he : starEach [.Name e pe] X.env = [(false, eval (.Name e pe) X.env)]) :
    PE X (.Call (.Name x q) [.Name e pe] [] pos) (fun σ H Q => σ[i]? = some (some (.ref p.1)) ∧ ∃ (W : Wd) (st : Store), Holds X.K W H st ∧ Fin X.K W H (fun _ _ _ => False) (m st) Q) := by
  refine ⟨fun pins s σ H Q I ⟨h1, W, st, hh, h⟩ => wpAny_Call_Name_kw (ld_glob I hg hm ?_ hdb)⟩
  have ha : PA X [.Name e pe] (tCons (tVar i) tNil) := pa_cons (pe_var hN hv hd hcd) pa_nil he
  refine PySem.W.callWith_K (h₀ := X.base) I.ok.mod.kin hk (thn (ha.run pos pins s σ H (fun vs H1 => vs = [V.ref p.1] ∧ H1 = H) I ⟨.ref p.1, h1, rfl, rfl⟩) fun us s1 ⟨vs, H1, I1, r, ev, eH⟩ => ⟨I1.kIn, ?_⟩) he (by rfl)
  subst ev
  rw [eH] at I1
  obtain ⟨u, rfl, ru⟩ := vals1 r
  obtain rfl : u = Value.ref p.1 := ru
  have b := hb s1 [.ref p.1] I1.kIn rfl
  have P1 := I1.pin p (List.mem_append_left _ hp)
  have hpin : L2H.PinOk X.stack H s1 p := ⟨P1.1, P1.2.1, fun hm => (List.mem_cons.mp (I1.stkSub p.1 hm)).elim P1.2.2.1 P1.2.2.2.1, P1.2.2.2.2⟩
  refine wpAny_call (codeAny_mono (F.run X.A X.stack s1 H ⟨[.ref p.1], []⟩ (.ref p.1) Q p W st hr hot hpin hz I1.env0 b rfl hh h) fun r s' hq => ?_)
  cases r with
  | error e =>
    obtain ⟨_, _, _, _, _, _, _, _, _, _, _, _, z⟩ := hq
    exact z.elim
  | ok fl =>
    cases fl with
    | ret u => exact I1.after hq
    | next => exact False.elim hq
    | brk => exact False.elim hq
    | cont => exact False.elim hq
end
end DH
set_option maxHeartbeats 2000000
/-! DH4: a lambda is made, handed to a def, and called there. -/
namespace DH
open PySem PySem.Spec PyProof.Rows L2 HotX DL LamX

section
variable {X : Cx} {pins : List (Addr × Obj)} {σ : L2.St} {H : Hp} {s : Shared}
/-- what the making of a lambda does to the heap: nothing, or the table grows by a new code object -/
def Grown (H H1 : Hp) (P c' : Addr) (q : Str) (ps : Array Value) : Prop := (H1 = H ∧ ∃ pos cv, codeAmong pos ps.toList = some cv ∧ cv = .ref c') ∨
  ∃ ps' : Array Value, H c' = none ∧ H1 = upd (upd H P (.tbl ps')) c' (CodeO c' q) ∧ TriplesOk ps'.toList ∧ ∀ (pos : Pos) (cv : Value), codeAmong pos ps'.toList = some cv → codeAmong pos ps.toList = some cv ∨ cv = .ref c'
theorem lam_mk {c P : Addr} {q : Str} {ps : Array Value} {params : Arguments} {body : Expr} {scope : Scope} {pos : Pos} {E : Value → Shared → Prop} {Q : Value → Shared → Prop} (I : Inv X pins σ H s) (TB : TabB X.base X.mg c P) (hcode : X.env.code = .ref c) (hq : X.env.qual ++ "<lambda>" = q)
    (hP : H P = some (.tbl ps)) (ht : TriplesOk ps.toList) (ha : ∀ (pos : Pos) (cv : Value), codeAmong pos ps.toList = some cv → ∃ c, cv = .ref c ∧ H c = some (CodeO c q)) (hdef : defaultsOf params X.env = ([], [])) (hfree : ∀ y ∈ scope.names, y.2 = .free → ∃ c, X.env.cells.lookup y.1 = some c)
    (h : ∀ (f c' : Addr) (pm ctv : Value) (H1 : Hp) (s' : Shared), Inv X pins σ H1 s' → Grown H H1 P c' q ps → s'.heap.get? f = some (PySem.W.kla_obj "<lambda>" q params body scope (cloFrom X.env.cells scope.names []) pm c' ctv) → H1 f = none → f ∉ frs X.stack → H1 c' = some (CodeO c' q) → Q (.ref f) s') :
    wpAny (model X.prog X.w) X.A (eval (.Lambda params body scope pos) X.env) Q E s := by
  subst hq
  refine PySem.W.kla_eval hdef ?_
  have bP : s.heap.BuiltinsAt X.mg P := TB.bm.keeps I.bk
  have hP' : s.heap.get? P = some { cls := .none, data := .fields ps } := I.hok P _ hP
  have nofr : ∀ f, s.heap.objs.size ≤ f → f ∉ frs X.stack := fun f hf z => (List.mem_cons.mp (I.stkSub _ z)).elim (fun e => by
    have h1 := I.lt
    rw [← e] at h1
    exact Nat.lt_irrefl _ (Nat.lt_of_lt_of_le h1 hf)) fun e => I.nofs hf e
  cases hc : codeAmong pos ps.toList with
  | none =>
    refine PySem.W.kla_makeFunction (mg := X.mg) (c := c) (P := P) (ps := ps) (closure_ok hfree) I.ok.glob (I.mod.glob.keeps I.bk) hcode (TB.code.keeps I.bk) hP' ht hc TB.gP bP fun c' ctv h' tk hx hge hlt hrec htb => ?_
    obtain ⟨c2, oc, vs, t, e2, hoc, hd, hv⟩ := hrec
    cases e2
    have hsz : s.heap.objs.size ≤ h'.objs.size := Nat.le_trans hge (Nat.le_of_lt hlt)
    have nC : H c' = none := I.hok.fresh hge
    have I1 := inv_table (t' := tk) (more := #[rawInt pos.line, rawInt pos.col, .ref c']) (h' := h'.push (PySem.W.kla_obj "<lambda>" (X.env.qual ++ "<lambda>") params body scope (cloFrom X.env.cells scope.names []) ((X.mg "__name__").getD .none) c' ctv)) I hP
      (fun b o hb e => Heap.get?_push_of_some _ (hx b o hb e)) (Heap.get?_push_of_some _ htb) hge ⟨oc, vs, t, Heap.get?_push_of_some _ hoc, hd, hv⟩
    have eL : (ps ++ #[rawInt pos.line, rawInt pos.col, .ref c']).toList = ps.toList ++ [rawInt pos.line, rawInt pos.col, .ref c'] := by simp
    refine h h'.objs.size c' ((X.mg "__name__").getD .none) ctv _ _ I1 (.inr ⟨_, nC, rfl, by rw [eL]; exact PySem.TriplesOk_snoc _ _ _ _ ht, fun p' cv hcv => ?_⟩) (Heap.get?_push_size _ rfl) ?_ (nofr _ hsz) upd_same
    · rw [eL] at hcv
      exact among_app _ ht hcv
    · rw [upd_ne (Nat.ne_of_gt hlt), upd_ne (Nat.ne_of_gt (Nat.lt_of_lt_of_le (Heap.lt_size hP') hsz))]
      exact I.hok.fresh hsz
  | some cv =>
    obtain ⟨c', e, hco⟩ := ha pos cv hc
    refine PySem.W.kla_makeFunctionHit (mg := X.mg) (c := c) (P := P) (ps := ps) (closure_ok hfree) I.ok.glob (I.mod.glob.keeps I.bk) hcode (TB.code.keeps I.bk) hP' ht (by rw [hc, e]) bP fun ctv h' tk hx hsz => ?_
    have I1 : Inv X pins σ H { s with heap := h'.push (PySem.W.kla_obj "<lambda>" (X.env.qual ++ "<lambda>") params body scope (cloFrom X.env.cells scope.names []) ((X.mg "__name__").getD .none) c' ctv), toks := tk } := I.kept fun b o e => Heap.get?_push_of_some _ (hx b o e)
    exact h h'.objs.size c' ((X.mg "__name__").getD .none) ctv H _ I1 (.inl ⟨rfl, pos, cv, hc, e⟩) (Heap.get?_push_size _ rfl) (I.hok.fresh hsz) (nofr _ hsz) hco
end
/-- .. at the world: the store's table holds on -/
theorem Holds.grown {K : PySem.W.Frag} {W : Wd} {H H1 : Hp} {st : Store} {j : Nat} {P c' : Addr} {x q : Str} {ps : Array Value} (hh : Holds K W H st) (hj : st[j]? = some (.tab x q)) (hP : W.mu[j]? = some P) (hp : H P = some (.tbl ps)) (g : Grown H H1 P c' q ps) : Ext W W H H1 ∧ Holds K W H1 st := by
  obtain ⟨u, ea, ps0, h1, h2, h3⟩ := hh.cell j _ P hj hP
  rw [hp] at h1
  cases h1
  rcases g with ⟨e, _⟩ | ⟨ps', nc, e, t', ha'⟩
  · rw [e]; exact ⟨Ext.refl, hh⟩
  · have x1 : Ext W W H (upd H P (.tbl ps')) := Ext.wr u (List.mem_of_getElem? hP) hp
    have ncP : upd H P (.tbl ps') c' = none := by rw [upd_ne (a := P) (b := c') (fun z => by rw [z, hp] at nc; cases nc)]; exact nc
    have x2 : Ext W W (upd H P (.tbl ps')) H1 := by rw [e]; exact Ext.new1 ncP
    refine ⟨x1.trans x2, ?_⟩
    -- with the new code object first
    have nc2 : Holds K W (upd H c' (CodeO c' q)) st := hh.new1 nc
    have hp2 : upd H c' (CodeO c' q) P = some (.tbl ps) := by rw [upd_ne (ne_of_none hp nc)]; exact hp
    have sw : H1 = upd (upd H c' (CodeO c' q)) P (.tbl ps') := by
      rw [e]
      funext b
      unfold upd
      by_cases h1 : b = c'
      · by_cases h2 : b = P
        · rw [← h1, h2] at nc; rw [hp] at nc; cases nc
        · rw [if_pos h1, if_neg h2, if_pos h1]
      · rw [if_neg h1]
        by_cases h2 : b = P
        · rw [if_pos h2, if_pos h2]
        · rw [if_neg h2, if_neg h2, if_neg h1]
    have hw := nc2.wr (o' := .tbl ps') (c := .tab x q) u hP hp2 ⟨u, ea, ps', upd_same, t', fun pos cv hc => by
      rcases ha' pos cv hc with z | z
      · obtain ⟨c0, q1, q2, q3⟩ := h3 pos cv z
        exact ⟨c0, q1, q2, by rw [upd_ne (a := P) (b := c0) fun e => q2 (e ▸ u), upd_ne (ne_of_none q3 nc)]; exact q3⟩
      · exact ⟨c', z, hh.fresh nc, by rw [upd_ne (a := P) (b := c') fun e => by rw [e, hp] at nc; cases nc]; exact upd_same⟩⟩
    rw [sw]
    have es : st.set j (.tab x q) = st := by
      apply List.ext_getElem?
      intro i
      by_cases z : i = j
      · subst z
        rw [List.getElem?_set_self (List.getElem?_eq_some_iff.mp hj).1, hj]
      · rw [List.getElem?_set_ne (Ne.symm z)]
    rwa [es] at hw
/-- the context of the lambda's body -/
abbrev lamN (X : Cx) (A : Around) (outer : List Env) (s : Shared) (H : Hp) (E : XK) (scope : Scope) (f c' : Addr) : Cx :=
  { lamCx X A outer s H E scope f c' with xe := fun e s' => wpAny (model X.prog X.w) (A.deeper (lamEnv X scope s.heap.objs.size f c')) (leaving (lamEnv X scope s.heap.objs.size f c') e) (fun _ s2 => L2N.CX X.prog X.w outer H s E e s2) (fun e' s2 => L2N.CX X.prog X.w outer H s E e' s2) s' }
section
variable {X : Cx} {pins : List (Addr × Obj)} {σ : L2.St} {H : Hp} {s : Shared}
/-- x(), in the def that got the lambda -/
theorem pe_actN {CXg : CXT} {Eg : XK} {Ng : List Str} {qg : Str} {sg : Scope} {g f c' : Addr} {q : Str} {cdg pm ctv : Value} {params : Arguments} {body : Expr} {scope : Scope} {k i : Nat} {a : Str} {pn : List (Addr × Obj)} {xe : Value → Shared → Prop} {W : WX} {E : XK} {tb : TE} {p1 p2 : Pos}
    (I : Inv X pins σ H s) (L : LamS X.env.scope scope) (hq : X.env.qual ++ "<lambda>" = q) (hf : s.heap.get? f = some (PySem.W.kla_obj "<lambda>" q params body scope (cloFrom X.env.cells scope.names []) pm c' ctv)) (hfn : H f = none) (hfr : f ∉ frs X.stack)
    (hbind : bindArgs (PySem.W.kla_fn "<lambda>" q params body scope (cloFrom X.env.cells scope.names []) pm (.ref c') ctv) ⟨[], []⟩ = pure [])
    (tk : L2N.Takes ((cxOf CXg X.prog X.w X.K X.mg X.base Ng qg sg g cdg X.A X.stack s H Eg).tr pn xe) W) (hW : ∀ cls d σ' H', E cls d H' → W cls d σ' H') (hr : Room (k + 1) (X.A.deeper (envOfC qg sg s.heap.objs.size g cdg)))
    (hbody : ∀ (A : Around) (outer : List Env) (s : Shared) (H : Hp), Room k (A.deeper (lamEnv X scope s.heap.objs.size f c')) → PE (lamN X A outer s H E scope f c') body tb)
    (hN : Ng[i]? = some a) (hv : Vis sg a) (hd : (a == ("__debug__" : Str)) = false) (hcd : (a == ("__classdict__" : Str)) = false) :
    PE ((cxOf CXg X.prog X.w X.K X.mg X.base Ng qg sg g cdg X.A X.stack s H Eg).tr pn xe) (.Call (.Name a p1) [] [] p2) (fun τ G Q => τ[i]? = some (some (.ref f)) ∧ G c' = some (CodeO c' q) ∧ tb σ G Q) := by
  subst hq
  refine ⟨fun pz sz τ G Q J0 ⟨hs, hc, ht⟩ => ?_⟩
  refine wpAny_Call_Name_kw (thn ((pe_var (pos := p1) (i := i) hN hv hd hcd).run pz sz τ G (fun v G1 => v = .ref f ∧ G1 = G) J0 ⟨.ref f, hs, rfl, rfl⟩) fun u s1 ⟨v, G1, I1, r1, ev, eG⟩ => ?_)
  subst ev
  rw [eG] at I1
  obtain rfl : u = Value.ref f := r1
  have of1 := I1.base.keep f _ hf hfn hfr (fun z => nomatch (show f ∈ ([] : List Addr) from z))
  refine PySem.W.callWith_F0 ⟨_, _, _, _, of1⟩ ?_
  have un : Un (frs X.stack) [] H G s.heap s1.heap := I1.base
  obtain ⟨⟨oc, vs, t, hoc, hdc, hvc⟩, _, _⟩ := I1.hok c' _ hc
  have rc : codeAny (model X.prog X.w) (X.A.deeper (envOfC qg sg s.heap.objs.size g cdg)) (.call (.ref f) ⟨[], []⟩) (CR (L2N.CX X.prog X.w) (envOfC qg sg s.heap.objs.size g cdg :: X.stack) X.prog X.w G s1 Q E) s1 := by
    refine PySem.W.kla_callFunE hr.depth of1 rfl L.co L.gen rfl ⟨c', oc, vs, t, rfl, hoc, hdc, hvc⟩ ?_
    rw [hbind]
    refine wpAny_pure (wpAny_newFunctionEnv (fun y hy => (L.own y hy).2) (fun y hy => absurd hy (by simp)) (fun h₁ hns hsb => ⟨I1.nolimit.fresh _ hsb, ?_⟩) L.kind)
    show codeAny _ _ (.expr body (lamEnv X scope s1.heap.objs.size f c')) _ _
    have kp : ∀ b o, s1.heap.get? b = some o → h₁.get? b = some o := fun b o e => hsb.extBut b o (Nat.ne_of_lt (Heap.lt_size e)) (Heap.get?_push_of_some _ e)
    have J1 := lam_start2 (E := E) (f := f) (c' := c') (tk := s1.toks + ([] : List (Str × Value)).length) I L I1.env0 hr.hd un hns kp
    have J : Inv (lamN X (X.A.deeper (envOfC qg sg s.heap.objs.size g cdg)) (envOfC qg sg s.heap.objs.size g cdg :: X.stack) s1 G E scope f c') [] σ G { s1 with heap := h₁, toks := s1.toks + ([] : List (Str × Value)).length } := J1.toTry _
    refine PySem.W.kla_codeExpr (wpAny_mono ((hbody _ _ s1 G (hr.deeper _)).run [] _ _ G Q J ht) (fun v s' hq => ?_) fun e s' hq => hq)
    obtain ⟨w', G', J', rv, q⟩ := hq
    exact ⟨w', G', J'.os, J'.bare, J'.base, J'.hok, rv, q⟩
  refine wpAny_call (codeAny_mono rc fun r s' hq => ?_)
  cases r with
  | error e => exact L2N.passes_call tk hW pz τ G s1 e s' I1 hq
  | ok fl =>
    cases fl with
    | ret u => exact I1.after hq
    | next => exact False.elim hq
    | brk => exact False.elim hq
    | cont => exact False.elim hq
end
end DH
set_option maxHeartbeats 2000000
/-! DH5: _law_refused(lambda: ..). -/
namespace DH
open PySem PySem.Spec PyProof.Rows L2 HotX DL LamX

/-- the store's j-th cell is the def's table -/
def tabC (j : Nat) (x q : Str) : M Unit := fun st => match st[j]? with
  | some (.tab y r) => if (y == x && r == q) = true then .ok () st else .stuck
  | _ => .stuck
theorem tabC_cases (j : Nat) (x q : Str) (st : Store) : (st[j]? = some (.tab x q) ∧ tabC j x q st = .ok () st) ∨ tabC j x q st = .stuck := by
  unfold tabC
  cases e : st[j]? with
  | none => exact .inr rfl
  | some c =>
    cases c with
    | tab y r =>
      by_cases h : (y == x && r == q) = true
      · have h' := h
        rw [Bool.and_eq_true, beq_iff_eq, beq_iff_eq] at h'
        obtain ⟨rfl, rfl⟩ := h'
        exact .inl ⟨rfl, if_pos h⟩
      · exact .inr (if_neg h)
    | _ => exact .inr rfl
/-- what refused() answers: nothing, or the error's word -/
def catchM (cls : List Str) (mErr : Str → M D) (mb : M D) : M D := fun st => match mb st with
  | .ok _ st' => .ok (.str []) st'
  | .exc e st' => if (cls.contains e.cls && e.fs.isEmpty) = true then nox (mErr e.cls) st' else .stuck
  | .stuck => .stuck
/-- the def that tells errors -/
structure RefE (P : Program) (w : World) (K : PySem.W.Frag) (mg : Str → Option Value) (base : Heap) (ke : Nat) (cls : List Str) (mErr : Str → M D) : Prop where
  ex : ∃ fe fde, mg "_law_error" = some (.ref fe) ∧ PySem.W.keepIn K (.ref fe) = true ∧ Binds K fde ["e"] [] ∧ ∀ c ∈ cls, FnP P w K mg base ke fe fde "e" c (mErr c) ∧ PySem.W.exmOne K (.ref (He.ga K c)) (.ref (He.ga K "PushError")) = some true
abbrev refB (j : Nat) (p1 p2 p3 p4 p5 p6 p7 p8 p9 p10 p11 p12 : Pos) : List Stmt :=
  [.Try [.Expr (.Call (.Name "call" p1) [] [] p2) p3] [.ExceptHandler (some (.Name "PushError" p4)) (some "e") [.Return (some (.Call (.Name "_law_error" p5) [.Name "e" p6] [] p7)) p8] p9] [] [] p10, .Return (some (.Constant (.str "") j p11)) p12]
section
variable {X : Cx} {E : DL.St → XK} {σd : List Sl} {mb : M D} {p lpos pos p1 p2 p3 p4 p5 p6 p7 p8 p9 p10 p11 p12 : Pos} {k ke n0 : Nat} {x q : Str} {g : Addr} {fdg : FuncData} {pg params : Arguments} {sg scope : Scope} {body : Expr} {cls : List Str} {mErr : Str → M D}
theorem de_refused (j : Nat) (G : FunD X.K "_law_refused" "_law_refused" pg (refB n0 p1 p2 p3 p4 p5 p6 p7 p8 p9 p10 p11 p12) sg [] [] g fdg) (hm : X.mg "_law_refused" = some (.ref g)) (hgl : Gl X "_law_refused") (Sg : FnScope ["call", "e"] ["call"] sg)
    (hbg : ∀ (kV doc pm : Value) (an : Option Addr) (cdv ct : Value) (us : List Value), us.length = 1 → bindArgs (PySem.W.fnOf "_law_refused" "_law_refused" pg (refB n0 p1 p2 p3 p4 p5 p6 p7 p8 p9 p10 p11 p12) sg .none kV doc pm an cdv ct) ⟨us, []⟩ = pure ((["call"] : List Str).zip us))
    (hs1 : sg.names.lookup ("PushError" : Str) = some .globalImplicit) (hs2 : sg.names.lookup ("_law_error" : Str) = some .globalImplicit) (hs3 : sg.names.lookup ("e" : Str) = some .local) (hs4 : Vis sg "call") (R : RefE X.prog X.w X.K X.mg X.base ke cls mErr) (hPE : X.mg "PushError" = some (.ref (He.ga X.K "PushError")))
    (TB : TabB X.base X.mg (He.cT X.K (x, none)).1 (He.cT X.K (x, none)).2) (hcode : X.env.code = .ref (He.cT X.K (x, none)).1) (hq : X.env.qual ++ "<lambda>" = q) (hr : Room (k + 2) X.A) (hke : ke ≤ k + 1) (L : LamS X.env.scope scope) (hdef : defaultsOf params X.env = ([], []))
    (hbind : ∀ (q : Str) (cl : List (Str × Addr)) (pm cv ctv : Value), bindArgs (PySem.W.kla_fn "<lambda>" q params body scope cl pm cv ctv) ⟨[], []⟩ = pure [])
    (hbody : ∀ (A : Around) (outer : List Env) (s : Shared) (H : Hp) (E : XK) (f c' : Addr), Room k (A.deeper (lamEnv X scope s.heap.objs.size f c')) → DE (lamN X A outer s H E scope f c') (fun _ => E) σd body mb) :
    DE X E σd (.Call (.Name "_law_refused" p) [.Lambda params body scope lpos] [] pos) (tabC j x q >>= fun _ => catchM cls mErr mb) := by
  refine ⟨⟨fun pins s σ H Q I ⟨W, st, hh, hs, h⟩ => ?_⟩⟩
  rcases tabC_cases j x q st with ⟨hj, e⟩ | e
  · rw [bind_ok e] at h
    obtain ⟨P, hP⟩ : ∃ P, W.mu[j]? = some P := ⟨_, List.getElem?_eq_getElem (by rw [hh.len]; exact (List.getElem?_eq_some_iff.mp hj).1)⟩
    obtain ⟨u, ea, ps, hp, ht, hcs⟩ := hh.cell j _ P hj hP
    subst ea
    obtain ⟨oc, od, dV, kV, doc, pm, an, cdv, ct, osl, rfl, lk, hcd, hD, _⟩ := G.ex
    obtain ⟨fe, fde, hmE, hkE, hbE, hE⟩ := R.ex
    refine wpAny_Call_Name_kw (ld_glob I hgl hm ?_ (by decide))
    refine PySem.W.callWith_K (h₀ := X.base) I.ok.mod.kin G.kp ?_ (by rfl) (by rfl)
    show wpAny _ _ (spliced ((false, eval (.Lambda params body scope lpos) X.env) :: backTo pos (starEach [] X.env))) _ _ s
    refine Calls.spliced_cons (lam_mk I TB hcode hq hp ht (fun pos cv hc => let ⟨c, q1, _, q3⟩ := hcs pos cv hc; ⟨c, q1, q3⟩) hdef (L.has I.ok) fun f c' pm' ctv H1 s' I1 gr hf hfn hfr hco => ?_)
    refine Calls.spliced_nil ⟨I1.kIn, ?_⟩
    obtain ⟨e1, hh1⟩ := Holds.grown hh hj hP hp gr
    have h1 : Fin X.K W H1 (E σ) (catchM cls mErr mb st) Q := h.shift e1
    have hb1 : Binds X.K _ ["call"] [] := G.bindsN hbg
    have rc : codeAny (model X.prog X.w) X.A (.call (.ref g) ⟨[.ref f], []⟩) (CR (L2N.CX X.prog X.w) X.stack X.prog X.w H1 s' Q (fun _ _ _ => False)) s' := by
      refine run_ofS (N := ["call", "e"]) (ps := ["call"]) (us := [.ref f]) (vs := [.ref f]) lk hcd Sg hr I1.env0 (hb1 s' [.ref f] I1.kIn rfl) (.cons rfl .nil) rfl fun hr' => ?_
      let Z := cxOf (L2N.CX X.prog X.w) X.prog X.w X.K X.mg X.base ["call", "e"] "_law_refused" sg g cdv X.A X.stack s' H1 (fun _ _ _ => False)
      let ts : Addr → Value → Option Addr → TS := fun a cl d D τ G => ∃ c ∈ cls, cl = .ref (He.ga X.K c) ∧ d = none ∧ (1 < τ.length → τ[1]? = some (some (.ref a))) ∧ ∃ (W2 : Wd) (st2 : Store), Holds X.K W2 G st2 ∧ Fin X.K W2 G (fun _ _ _ => False) (nox (mErr c) st2) D.rt
      let tb : WX → TS := fun Wx D τ G => ∃ Ech : XK, (∀ cl d σ' H', Ech cl d H' → Wx cl d σ' H') ∧ τ[0]? = some (some (.ref f)) ∧ G c' = some (CodeO c' q) ∧ tD X.K σd (fun _ => Ech) mb σ G (fun _ G' => D.nx τ G')
      have nd : (["call", "e"] : List Str).Nodup := by decide
      have tk0 : L2N.Takes Z (fun cl d _ H => (fun _ _ _ => False : XK) cl d H) := L2N.takes_of rfl rfl rfl rfl
      refine ⟨_, pss_cons (L2N.ps_try_as (X := Z) (x := "PushError") (n := "e") (c := .ref (He.ga X.K "PushError")) (i := 1) (tb := tb) (ts := ts) rfl rfl nd rfl hs3 ⟨hs1, by decide, .inl hPE⟩ tk0 (fun Wx pn xe tk _ => ?_) (fun a oe cl d pn hz hvs => ?_)) (pss_one (ps_ret pe_str)), ?_⟩
      · exact ⟨fun pz sz τ G Dn J0 ⟨Ech, hW, g1, g2, g3⟩ => (pss_one (ps_expr (pe_actN (i := 0) I1 L hq hf hfn hfr (hbind _ _ _ _ _) tk hW hr' (fun A outer s H hr2 => (hbody A outer s H Ech f c' hr2).pe) rfl hs4 (by decide) (by decide)))).run pz sz τ G Dn J0 ⟨g1, g2, g3⟩⟩
      · refine ⟨fun pz sz τ G Dn J0 ⟨c, hc, c1, c2, g1, W2, st2, hh2, g2⟩ => ?_⟩
        subst c1 c2
        obtain ⟨vs, hv⟩ := hvs
        have hl : τ.length = 2 := J0.len
        exact (pss_one (ps_ret (pe_callP (X := Z.suite a ((a, oe) :: pn)) (i := 1) (e := "e") (x := "_law_error") (p := (a, oe)) (c := c) (m := nox (mErr c)) List.mem_cons_self ⟨rfl, vs, hv, hz.2.2 vs hv⟩ hz.zc ⟨fun A outer s H args u Q p W st q1 q2 q3 q4 q5 q6 q7 q8 q9 => (hE c hc).1.run A outer s H args u Q p W st q1 q2 q3 q4 q5 q6 q7 q8 (After.nox q9 _)⟩ ((⟨hr'.dp, hr'.un⟩ : L2H.RoomH (k + 1) (Z.suite a ((a, oe) :: pn)).A).mono hke) hs2 hmE hkE hbE rfl (.inl hs3) (by decide) (by decide) (by decide) rfl))).run pz sz τ G Dn J0 ⟨g1 (by omega), W2, st2, hh2, g2⟩
      · refine ⟨fun cl d G => ∃ c ∈ cls, cl = .ref (He.ga X.K c) ∧ d = none ∧ ∃ (W2 : Wd) (st2 : Store), Holds X.K W2 G st2 ∧ Fin X.K W2 G (fun _ _ _ => False) (nox (mErr c) st2) Q, fun cl d σ' H' ⟨c, hc, c1, c2, W2, st2, hh2, g2⟩ => ?_, rfl, hco, W, st, hh1, hs.ext e1, ?_⟩
        · subst c1
          exact ⟨true, (hE c hc).2, fun _ a _ => ⟨c, hc, rfl, c2, fun hl => List.getElem?_set_self (by simpa using hl), W2, st2, hh2, g2⟩, fun z => nomatch z⟩
        · unfold catchM at h1
          cases hm : mb st with
          | ok d st' =>
            rw [hm] at h1
            exact fun W' H' e2 hh2 v r => h1 W' H' e2 hh2 _ ⟨rfl, by decide⟩
          | exc ee st' =>
            rw [hm] at h1
            have h2 : Fin X.K W H1 (E σ) (if (cls.contains ee.cls && ee.fs.isEmpty) = true then nox (mErr ee.cls) st' else .stuck) Q := h1
            by_cases hcond : (cls.contains ee.cls && ee.fs.isEmpty) = true
            · rw [if_pos hcond] at h2
              rw [Bool.and_eq_true] at hcond
              have hcl : ee.cls ∈ cls := by simpa using hcond.1
              have hfs : ee.fs = [] := by simpa using hcond.2
              intro W' H' C d e2 hh2 hx
              refine ⟨ee.cls, hcl, hx.1, ?_, W', st', hh2, ?_⟩
              · rcases hx.2 with z | z
                · exact z.2
                · exact absurd hfs z.1
              · have h3 := h2.shift e2
                have nn : nox (nox (mErr ee.cls)) = nox (mErr ee.cls) := by
                  funext st3
                  unfold nox
                  cases mErr ee.cls st3 <;> rfl
                rw [← nn] at h3
                exact After.nox h3 _
            · rw [if_neg hcond] at h2
              exact h2.elim
          | stuck =>
            rw [hm] at h1
            exact h1.elim
    refine wpAny_call (codeAny_mono rc fun r s2 hq => ?_)
    cases r with
    | error e =>
      obtain ⟨_, _, _, _, _, _, _, _, _, _, _, _, z⟩ := hq
      exact z.elim
    | ok fl =>
      cases fl with
      | ret u => exact I1.after hq
      | next => exact False.elim hq
      | brk => exact False.elim hq
      | cont => exact False.elim hq
  · rw [bind_stuck e] at h
    exact h.elim
end
end DH
set_option maxHeartbeats 2000000
/-! DH6: comprehensions while an error is handled, on data; local names that hold defs. -/
namespace DH
open PySem PySem.Spec PyProof.Rows L2 HotX DL LamX

def asF : D → M (List D)
  | .lst xs => pure xs
  | _ => M.stuck
section
variable {X : Cx} {E : DL.St → XK} {σd : List Sl} {p : Addr × Obj} {tg iter elt : Expr} {ifs : List Expr} {scope : Scope} {pos : Pos} {mi : M D} {own : List (Str × Nat)} {P : Type} {dec : D → Option P} {up : P → List Sl → List Sl} {test : P → M Bool} {me : P → M D} {fin : List D → M D} {g : TG} {ix : List Nat}
theorem de_lcH (hf : FinOk X.K fin) (hot : L2H.Hot1 X.A p) (hpn : p ∈ X.pn) (hN : X.N.Nodup) (hg : GOk X.K g ix dec up) (hix : ∀ i ∈ ix, i ∈ own.map (·.2)) (hi : DE X E σd iter mi) (ok : BlkOk X.N X.env.scope scope own)
    (hp : ∀ (s : Shared) (H : Hp) (C : Addr) (cl : List (Str × Addr)) (fp : List Addr), PGp (X.blk s H scope (compEnvC scope cl C X.env) fp) p tg g)
    (ht : ∀ (s : Shared) (H : Hp) (C : Addr) (cl : List (Str × Addr)) (fp : List Addr) (q : P), DTs (X.blk s H scope (compEnvC scope cl C X.env) fp) E0' (up q (wipeD σd (own.map (·.2)))) ifs (test q))
    (he : ∀ (s : Shared) (H : Hp) (C : Addr) (cl : List (Str × Addr)) (fp : List Addr) (q : P), DE (X.blk s H scope (compEnvC scope cl C X.env) fp) E0' (up q (wipeD σd (own.map (·.2)))) elt (me q))
    (hs : ∀ x, foldedSetIterable iter X.env x = pure x) :
    DE X E σd (.ListComp elt [⟨tg, iter, ifs, 0⟩] scope pos) (mi >>= fun d => asF d >>= fun ds => compM dec test me ds >>= fin) := by
  refine ⟨pe_imp (pe_lcP (own := own) (tt := fun σ H Q => ∃ q, tDT X.K (up q (wipeD σd (own.map (·.2)))) E0' (test q) σ H Q) (te := fun σ H Q => ∃ q, tD X.K (up q (wipeD σd (own.map (·.2)))) E0' (me q) σ H Q) hot hpn hN (pip_list hi.pe) ok hp (fun s H C cl fp => pts_ex fun q => (ht s H C cl fp q).pts) (fun s H C cl fp => pe_ex fun q => (he s H C cl fp q).pe) hs) fun σ H Q ⟨W, st, hh, hs, h⟩ => ?_⟩
  refine tD_run hh hs h fun d v W1 H1 st1 e1 hh1 hs1 r1 h1 => ?_
  cases d with
  | lst xs =>
    obtain ⟨a, vs, rfl, nu, ha, hz, r⟩ := r1
    have h2 : Fin X.K W1 H1 (E σ) ((compM dec test me xs >>= fin) st1) Q := h1
    exact ⟨a, rfl, ⟨vs, SqL.of ha⟩, comp_readsF hf hg hix (walks_list nu ha r) hz hh1 hs1 h2⟩
  | _ => exact h1.elim
end
/-! ### a local name that holds a def -/
def lookD (cands : List (Str × (List D → M D))) : D → M (List D → M D)
  | .fn x => ofO (cands.lookup x)
  | _ => M.stuck
section
variable {X : Cx} {E : DL.St → XK} {σd : List Sl} {e : Expr} {es : List Expr} {m : M (List D)} {pos p : Pos} {k n i : Nat} {x : Str} {d : D}
theorem de_callD {cands : List (Str × (List D → M D))} (hi : σd[i]? = some (.val d)) (hN : X.N[i]? = some x) (hv : Vis X.env.scope x) (hC : ∀ y mf, cands.lookup y = some mf → CalD X.prog X.w X.K X.mg X.base k y n mf ∧ X.mg y = some (.ref (He.ga X.K y)) ∧ ∀ ds st, ds.length ≠ n → mf ds st = .stuck)
    (hr : Room k X.A) (hx : ∀ σ, PassesAt (L2N.CX X.prog X.w) X σ (E σ)) (ha : DA X E σd (e :: es) m) (hdb : (x == ("__debug__" : Str)) = false) (hcd : (x == ("__classdict__" : Str)) = false) (he : starEach (e :: es) X.env = (false, eval e X.env) :: starEach es X.env) (hpl : (backTo pos (starEach es X.env)).any (·.1) = false) :
    DE X E σd (.Call (.Name x p) (e :: es) [] pos) (lookD cands d >>= fun mf => m >>= mf) := by
  refine ⟨⟨fun pins s σ H Q I ⟨W, st, hh, hs, h⟩ => ?_⟩⟩
  cases d with
  | fn y =>
    obtain ⟨mf, hy, h1⟩ := ofO_run h
    obtain ⟨c, hmy, hst⟩ := hC y mf hy
    obtain ⟨f, fd, ps, F, hm, hk, hb, hps⟩ := c.ex
    rw [hmy] at hm
    cases hm
    obtain ⟨v, q1, q2⟩ := hs.val i _ hi
    have q2' : v = .ref (He.ga X.K y) := q2
    subst q2'
    refine wpAny_Call_Name_kw (thn ((pe_var (pos := p) hN hv hdb hcd).run pins s σ H (fun v H1 => v = .ref (He.ga X.K y) ∧ H1 = H) I ⟨_, q1, rfl, rfl⟩) fun u s1 ⟨v, H1, I1, r1, ev, eH⟩ => ?_)
    subst ev
    rw [eH] at I1
    obtain rfl : u = Value.ref (He.ga X.K y) := r1
    refine PySem.W.callWith_K (h₀ := X.base) I.ok.mod.kin hk (thn (ha.pa.run pos pins s1 σ H (fun vs H1 => SpD X.K n mf (vs ++ []) H1 Q (E σ)) I1 ⟨W, st, hh, hs, (After.next hs hh h1).mono fun ds W1 H1 st1 _ _ _ ⟨e1, hh1, hs2, h1⟩ vs r1 => ?_⟩) fun us s2 ⟨vs, H2, I2, r, q⟩ => ⟨I2.kIn, ?_⟩) he hpl
    · show SpD X.K n mf (vs ++ []) H1 Q (E σ)
      rw [List.append_nil]
      refine ⟨?_, W1, st1, ds, hh1, r1, h1⟩
      by_cases hd : ds.length = n
      · exact r1.length.trans hd
      · have h1' : After X.K W1 H1 (E σ) (mf ds st1) _ := h1
        rw [hst ds st1 hd] at h1'
        exact h1'.elim
    · exact run_fnSD F hr hb .nil (hx σ) I2 r q
  | _ => exact h.elim
end
end DH
namespace DH
open PySem PySem.Spec PyProof.Rows L2 HotX DL LamX
theorem candN {Pp : Str → (List D → M D) → Prop} : ∀ (y : Str) (mf : List D → M D), ([] : List (Str × (List D → M D))).lookup y = some mf → Pp y mf := fun y mf h => by cases h
theorem candC {Pp : Str → (List D → M D) → Prop} {x : Str} {g : List D → M D} {l : List (Str × (List D → M D))} (h : Pp x g) (r : ∀ y mf, l.lookup y = some mf → Pp y mf) : ∀ (y : Str) (mf : List D → M D), ((x, g) :: l).lookup y = some mf → Pp y mf := fun y mf hy => by
  rw [List.lookup_cons] at hy
  by_cases e : (y == x) = true
  · rw [e] at hy
    cases hy
    rw [beq_iff_eq.mp e]
    exact h
  · rw [Bool.not_eq_true] at e
    rw [e] at hy
    exact r y mf hy
def lamQ (x : Str) : Str := (x ++ ".<locals>.") ++ "<lambda>"
theorem hu65H {k : Nat} {A : Around} (r : L2H.RoomH k A) : A.units + 65 < cLine := by
  have := r.un
  omega
theorem hu64H {k : Nat} {A : Around} (r : L2H.RoomH k A) : A.units + 64 < cLine := by
  have := r.un
  omega
end DH
set_option maxHeartbeats 4000000
/-! DH7: t[::-1], a tuple. -/
namespace DH
open PySem PySem.Spec PyProof.Rows L2 HotX DL LamX HT

section
variable {prog : Program} {w : World} {A : Around} {E : Value → Shared → Prop} {s : Shared}
theorem applied_rev {sl : Addr} {vs : Value} {n : Nat} {Q : Int × Int × Nat → Shared → Prop} (hs : s.heap.IsSliceOf sl .none .none vs) (ps : IsPart vs (some (-1))) (h : Q ((n : Int) - 1, -1, n) s) : wpAny (model prog w) A (Builtin.Slice.sliceApplied (.ref sl) (pure (n : Int))) Q E s := by
  obtain ⟨os, hos, hcs, hds⟩ := id hs
  unfold Builtin.Slice.sliceApplied Builtin.Slice.sliceFields
  refine wpAny_bind (wpAny_bind (wpAny_field hos hds (x := .none) rfl (wpAny_bind (wpAny_field hos hds (x := .none) rfl (wpAny_bind (wpAny_field hos hds (x := vs) rfl (wpAny_pure ?_)))))))
  refine wpAny_bind (slicePart_ ps ?_)
  show wpAny _ _ (if ((-1 : Int) == 0) = true then _ else _) _ _ s
  rw [if_neg (by decide)]
  refine wpAny_bind (slicePart_none (wpAny_bind (slicePart_none (wpAny_bind (wpAny_pure ?_)))))
  show wpAny _ _ (pure ((n : Int) - 1, (-1 : Int), Builtin.Slice.slicePlaces ((n : Int) - 1) (-1) (-1))) _ _ s
  have e : Builtin.Slice.slicePlaces ((n : Int) - 1) (-1) (-1) = n := by
    unfold Builtin.Slice.slicePlaces
    rw [if_neg (by decide)]
    by_cases hn : n = 0
    · subst hn; rfl
    · rw [if_pos (by omega)]
      have : ((n : Int) - 1 - -1 - 1) / (- -1) + 1 = n := by
        rw [show (- -1 : Int) = 1 by decide, Int.ediv_one]
        omega
      rw [this]
      rfl
  rw [e]
  exact wpAny_pure h
theorem fm_congr {α β : Type} {f g : α → Option β} : ∀ {l : List α}, (∀ m ∈ l, f m = g m) → l.filterMap f = l.filterMap g
  | [], _ => rfl
  | a :: l, h => by
    rw [List.filterMap_cons, List.filterMap_cons, h a List.mem_cons_self, fm_congr fun m hm => h m (List.mem_cons_of_mem _ hm)]
theorem pick_rev (xs : Array Value) : ((List.range xs.size).filterMap fun (m : Nat) => xs[(((xs.size : Int) - 1) + (m : Int) * -1).toNat]?).toArray = xs.toList.reverse.toArray := by
  have e : ((List.range xs.size).filterMap fun (m : Nat) => xs[(((xs.size : Int) - 1) + (m : Int) * -1).toNat]?) = xs.toList.reverse := by
    have h1 : ((List.range xs.size).filterMap fun (m : Nat) => xs[(((xs.size : Int) - 1) + (m : Int) * -1).toNat]?) = ((List.range xs.size).map fun m => xs.size - 1 - m).filterMap (xs[·]?) := by
      rw [List.filterMap_map]
      refine fm_congr fun m hm => ?_
      have := List.mem_range.mp hm
      show xs[(((xs.size : Int) - 1) + (m : Int) * -1).toNat]? = xs[xs.size - 1 - m]?
      congr 1
      omega
    rw [h1, PySem.W.krv_range, List.filterMap_reverse, PySem.W.krv_all]
  rw [e]
theorem getItem_rev {t sl : Addr} {items : Array Value} {vs : Value} {Q : Value → Shared → Prop} (ht : IsTup s.heap t items) (hs : s.heap.IsSliceOf sl .none .none vs) (ps : IsPart vs (some (-1)))
    (h : Q (.ref s.heap.objs.size) { s with heap := s.heap.push { cls := .type "tuple", data := .seq items.toList.reverse.toArray } }) (hsz : items.size ≤ sizeLine) : wpAny (model prog w) A (getItem (.ref t) (.ref sl)) Q E s := by
  have hz : sizeOk (.seq items.toList.reverse.toArray) := by
    show items.toList.reverse.toArray.size ≤ sizeLine
    rw [List.size_toArray, List.length_reverse, Array.length_toList]
    exact hsz
  obtain ⟨os, hos, hcs, hds⟩ := id hs
  have hTs : s.TypeIs (.ref sl) "slice" := ⟨os, hos, hcs⟩
  unfold getItem
  try with_reducible refine wpAny_holding ?_
  first | refine wpAny_bind (wpAny_pure ?_) | skip
  refine wpAny_bind (wpAny_sequenceKey ht.typeIs (by decide) (wpAny_bind (wpAny_callSpecial?_slot (name := Str.ofString "__getitem__") ht.typeIs PyProof.Rows.slot_tuple_getitem (wpAny_call_entry PyProof.Rows.slot_tuple_getitem ht.typeIs entry_tuple_getitem ?_ (args_tuple_getitem _ _)))))
  show wpAny _ _ (Builtin.Tuple.tupleItemsOf (.ref t) >>= _) _ _ s
  refine wpAny_bind (tupleItemsOf_ ht (wpAny_bind (wpAny_typeOf hTs ?_)))
  rw [if_pos (by decide)]
  refine wpAny_bind (applied_rev hs ps ?_)
  show wpAny _ _ (if (((items.size : Int) - 1) == 0 && (-1 : Int) == 1 && items.size == items.size) = true then _ else _) _ _ s
  rw [if_neg (by simp), pick_rev]
  first
    | exact wpAny_bind (m := Builtin.Tuple.tupleExact _) (wpAny_newObj_type (wpAny_pure ⟨_, rfl, wpAny_pure h⟩) hz)
    | exact wpAny_bind (m := Builtin.Tuple.tupleExact _) (wpAny_newObj_type (wpAny_bind (wpAny_pure (wpAny_pure ⟨_, rfl, wpAny_pure h⟩))) hz)
    | exact wpAny_bind (wpAny_bind (m := Builtin.Tuple.tupleExact _) (wpAny_newObj_type (wpAny_pure (wpAny_pure ⟨_, rfl, wpAny_pure h⟩)) hz))
    | exact wpAny_bind (wpAny_bind (m := Builtin.Tuple.tupleExact _) (wpAny_newObj_type (wpAny_pure ⟨_, rfl, wpAny_pure h⟩) hz))
end
section
variable {X : Cx} {E : DL.St → XK} {σd : List Sl} {e : Expr} {te : TE} {me : M D} {pos p1 p2 p3 : Pos} {k : Nat}
theorem pe_revT (he : PE X e te) : PE X (.Subscript e (.Slice none none (some (.UnaryOp .USub (.Constant (.int 1) k p1) p2)) p3) pos) (fun σ H Q => te σ H fun x H1 => ∃ a xs, x = .ref a ∧ SqT X.K H1 a xs ∧ ∀ p, H1 p = none → Q (.ref p) (upd H1 p (.tup xs.reverse))) := by
  refine ⟨fun pins s σ H Q I h => Subscript_ (thn (he.run pins s σ H _ I h) fun v s1 ⟨x, H1, I1, r1, a, xs, ex, hx, q⟩ => ?_)⟩
  subst ex
  cases r1
  have hst : PO X (some (.UnaryOp .USub (.Constant (.int 1) k p1) p2)) (tPart (tUn (rU fun i => .int (-i)) (tC (.int 1)))) := po_some (pe_un un_neg pe_int)
  refine wpAny_Slice (thn (po_none.run pins s1 σ H1 (fun o H2 => o = none ∧ H2 = H1) I1 ⟨rfl, rfl⟩) fun vl s2 ⟨l, H2, I2, pl, el, e2⟩ => thn (po_none.run pins s2 σ H2 (fun o H3 => o = none ∧ H3 = H2) I2 ⟨rfl, rfl⟩) fun vu s3 ⟨u, H3, I3, pu, eu, e3⟩ => ?_)
  subst el e2 eu e3
  refine thn (hst.run pins s3 σ H3 (fun o H4 => o = some (-1) ∧ H4 = H3) I3 ⟨1, rfl, -1, rfl, rfl, rfl⟩) fun vs s4 ⟨o, H4, I4, ps, eo, e4⟩ => ?_
  subst eo e4
  cases pl
  cases pu
  have I5 : Inv X pins σ H4 { s4 with heap := s4.heap.push { cls := .type "slice", data := .fields #[.none, .none, vs] } } := I4.kept (t' := s4.toks) fun b ob q => Heap.get?_push_of_some _ q
  obtain ⟨its, r, ht, hz⟩ := I5.tuple hx
  have hlen := r.length
  show wpAny (model X.prog X.w) X.A (subscriptTail e (.Slice none none (some (.UnaryOp .USub (.Constant (.int 1) k p1) p2)) p3) (.ref a) (.ref s4.heap.objs.size)) (EP X pins σ Q) X.xe { s4 with heap := s4.heap.push { cls := .type "slice", data := .fields #[.none, .none, vs] } }
  refine tail_any (ops := [.ref a, .ref s4.heap.objs.size]) ht.typeIs PyProof.Rows.slot_tuple_getitem.lookup ?_ (by with_unfolding_all rfl)
  refine getItem_rev ht (Heap.IsSliceOf.new _ .none .none vs) ps ?_ (by rw [List.size_toArray]; omega)
  exact ⟨.ref _, _, I5.laid (t' := s4.toks) (o := .tup xs.reverse) (fun b ob q => Heap.get?_push_of_some _ q) (Nat.le_refl _) ⟨by rw [List.length_reverse]; exact hz, _, r.reverse, IsTup.new _ _⟩, rfl, q _ (I5.hok.fresh (Nat.le_refl _))⟩
def dRevT : D → M D
  | .tup xs => pure (.tup xs.reverse)
  | _ => M.stuck
theorem de_revT (he : DE X E σd e me) : DE X E σd (.Subscript e (.Slice none none (some (.UnaryOp .USub (.Constant (.int 1) k p1) p2)) p3) pos) (me >>= dRevT) :=
  ⟨pe_imp (pe_revT he.pe) fun σ H Q ⟨W, st, hh, hs, h⟩ => tD_run hh hs h fun d v W1 H1 st1 e1 hh1 hs1 r1 h1 => by
    cases d with
    | tup xs =>
      obtain ⟨a, vs, rfl, ha, r⟩ := Rep.tupSq r1
      exact ⟨a, vs, rfl, ha, fun p hp => Fin.newT (xs := xs.reverse) h1 hh1 hp r.reverse (by rw [List.length_reverse]; exact Rep.tupLen r1)⟩
    | _ => exact h1.elim⟩
end
end DH
/-! DH8: the facts of the head; the law's start. -/
namespace DH
open PySem PySem.Spec PyProof.Rows L2 HotX DL LamX

def excCB (K : PySem.W.Frag) (C : Addr) : Bool := He.eqO (PySem.W.findIn K (.ref C) "__getattribute__") (some (some (.builtin "BaseException.__getattribute__"))) && (He.eqO (PySem.W.findIn K (.ref C) "__getattr__") (some none) && (decide (PySem.W.subIn K (.ref C) (.type "BaseException") = some true) && (PySem.W.hasDictIn K C &&
  (He.eqO (PySem.W.findIn K (.ref C) "__class__") (some (some (.builtin "object.__class__"))) && (He.eqO (PySem.W.specialIn K (.builtin "object.__class__") "__get__") (some (some (.builtin "getset_descriptor.__get__"))) && (decide (PySem.W.takesIn K (.builtin "object.__class__") = some true) && decide (PySem.W.mroIn K C (.type "object") = some true)))))))
theorem band {a b : Bool} (h : (a && b) = true) : a = true ∧ b = true := by rw [Bool.and_eq_true] at h; exact h
theorem excCB_ok {K : PySem.W.Frag} {C : Addr} (h : excCB K C = true) : ExcC K C := by
  obtain ⟨h1, h⟩ := band h
  obtain ⟨h2, h⟩ := band h
  obtain ⟨h3, h⟩ := band h
  obtain ⟨h4, h⟩ := band h
  obtain ⟨h5, h⟩ := band h
  obtain ⟨h6, h⟩ := band h
  obtain ⟨h7, h8⟩ := band h
  exact ⟨He.eqO_ok h1, He.eqO_ok h2, of_decide_eq_true h3, h4, He.eqO_ok h5, He.eqO_ok h6, of_decide_eq_true h7, of_decide_eq_true h8⟩
theorem errC_of {K : PySem.W.Frag} {mg : Str → Option Value} {x : Str} (c : (He.Fa.exc x).ok K = true) (g : mg x = some (.ref (He.ga K x))) : ErrC K mg x := by
  obtain ⟨h1, h2, h3, h4⟩ := He.exc_ok c
  exact ⟨_, _, _, _, PySem.F.excBase_ValueError, h1, g, h2, h3, h4⟩
def kitEB (K : PySem.W.Frag) (c y : Str) (b : Bool) : Bool := decide (PySem.W.kitOne K (.ref (He.ga K c)) (.ref (He.ga K y)) = some b)
/-- the law is called: the tables stand empty, the script is there -/
theorem sp_start {K : PySem.W.Frag} {H : Hp} {a : Addr} {ns : List Int} {tabs : List (Str × Str)} {m : D → M D} (nd : (tabs.map fun t => (He.cT K (t.1, none)).2).Nodup) (hT : ∀ t ∈ tabs, H (He.cT K (t.1, none)).2 = some (.tbl #[])) (hS : SqL K H a (ns.map V.int))
    (hm : ∃ st', m (.scr ns) (tabs.map fun t => Cell.tab t.1 t.2) = .ok (.bl true) st') : SpD K 1 (mk1 m) [.ref a] H (fun v _ => v = .bl true) fun _ _ _ => False := by
  obtain ⟨st', hm⟩ := hm
  refine ⟨rfl, ⟨tabs.map fun t => (He.cT K (t.1, none)).2, fun b => b ∈ tabs.map fun t => (He.cT K (t.1, none)).2⟩, tabs.map fun t => Cell.tab t.1 t.2, [.scr ns], ?_, ⟨_, _, rfl, ?_, rfl⟩, ?_⟩
  · refine ⟨by simp, nd, fun b hb => ?_, fun b hb => ?_, fun i c b h1 h2 => ?_⟩
    · obtain ⟨t, ht, rfl⟩ := List.mem_map.mp hb
      exact ⟨_, hT t ht⟩
    · obtain ⟨t, ht, rfl⟩ := List.mem_map.mp hb
      exact ⟨_, hT t ht⟩
    · rw [List.getElem?_map] at h1 h2
      cases q : tabs[i]? with
      | none => rw [q] at h1; cases h1
      | some t =>
        rw [q] at h1 h2
        cases h1
        cases h2
        have ht := List.mem_of_getElem? q
        exact ⟨List.mem_map.mpr ⟨t, ht, rfl⟩, rfl, #[], hT t ht, trivial, fun pos cv hc => by
          have z : codeAmong pos [] = some cv := hc
          simp [codeAmong] at z⟩
  · have nu : (∃ o, (o = HO.lst (ns.map V.int) ∨ ∃ ob, o = .frz ob (.lst (ns.map V.int))) ∧ H a = some o) → a ∉ tabs.map fun t => (He.cT K (t.1, none)).2 := fun ⟨o, ho, e⟩ hm => by
      obtain ⟨t, ht, rfl⟩ := List.mem_map.mp hm
      rw [hT t ht] at e
      cases e
      rcases ho with ho | ⟨_, ho⟩ <;> cases ho
    rcases hS with h1 | h1
    · have h2 : ∃ o, (o = HO.lst (ns.map V.int) ∨ ∃ ob, o = .frz ob (.lst (ns.map V.int))) ∧ H a = some o := by
        rcases h1 with h1 | ⟨o, h1⟩
        · exact ⟨_, .inl rfl, h1⟩
        · exact ⟨_, .inr ⟨o, rfl⟩, h1⟩
      exact ⟨a, rfl, .inl ⟨nu h2, h2⟩⟩
    · exact ⟨a, rfl, .inr (.inr h1)⟩
  · show After K _ H _ (mk1 m [.scr ns] _) _
    have e : mk1 m [.scr ns] (tabs.map fun t => Cell.tab t.1 t.2) = .ok (.bl true) st' := hm
    rw [e]
    exact fun W' H' _ _ v r => r
end DH
/-! DL15: while; zip; a written dict's item; min of a tuple. -/
namespace DL
open PySem PySem.Spec L2 PyProof.Rows

/-! ### while -/
def whileM {S : Type} (test : S → M Bool) (body : S → M (Fl S S)) : Nat → S → M (Fl S Empty)
  | 0, _ => M.stuck
  | n + 1, s => test s >>= fun b => if b = true then body s >>= fun f => match f with
      | .next s' => whileM test body n s'
      | .cnt s' => whileM test body n s'
      | .brk s' => pure (.next s')
      | .ret d => pure (.ret d)
    else pure (.next s)
section
variable {X : Cx} {E : XK} {σd : List Sl} {pos : Pos} {ss : List Stmt} {N T : Type} {eN : N → List Sl} {eT : T → List Sl}
theorem db_while {S : Type} {c : Expr} {body : List Stmt} {es : S → List Sl} {mt : S → M Bool} {mb : S → M (Fl S S)} {mr : S → M (Fl N T)} (n0 : Nat) (s0 : S) (hw : Wk (es s0) σd) (hp : PassesOwn (model X.prog X.w) X.A X.env X.xe)
    (ht : ∀ s, DT X (fun _ => E) (es s) c (mt s)) (hb : ∀ s, DB X E (es s) body es es (mb s)) (hr : ∀ s, DB X E (es s) ss eN eT (mr s)) :
    DB X E σd (.While c body [] pos :: ss) eN eT (whileM mt mb n0 s0 >>= fun f => thenL f mr) := by
  refine ⟨pss_imp (pss_cons (ps_while hp (pt_ex fun s : S => (ht s).pt) (pss_ex fun s : S => (hb s).pss)) (pss_ex fun s : S => (hr s).pss)) fun Dn σ H ⟨W, st, hh, hs, h⟩ => ?_⟩
  refine ⟨fun n σ2 H2 => ∃ (W2 : Wd) (st2 : Store) (s : S), Holds X.K W2 H2 st2 ∧ Slots X.K W2 H2 (es s) σ2 ∧ After X.K W2 H2 E ((whileM mt mb n s >>= fun f => thenL f mr) st2) (kDB X.K eN eT Dn), ⟨n0, W, st, s0, hh, hs.wk hw, h⟩, ?_⟩
  rintro n σ2 H2 ⟨W2, st2, s, hh2, hs2, a2⟩
  cases n with
  | zero => exact a2.elim
  | succ n =>
    unfold whileM at a2
    rw [M.bind_assoc] at a2
    refine ⟨s, W2, st2, hh2, hs2, (After.bind a2).mono fun b W3 H3 st3 _ e3 hh3 a3 => ?_⟩
    cases b with
    | true =>
      rw [if_pos rfl]
      rw [if_pos rfl] at a3
      refine ⟨fun σ4 H4 => ∃ m', m' < n + 1 ∧ ∃ (W2 : Wd) (st2 : Store) (s : S), Holds X.K W2 H4 st2 ∧ Slots X.K W2 H4 (es s) σ4 ∧ After X.K W2 H4 E ((whileM mt mb m' s >>= fun f => thenL f mr) st2) (kDB X.K eN eT Dn), fun σ' H' q => q, s, W3, st3, hh3, hs2.ext e3, ?_⟩
      rw [M.bind_assoc] at a3
      refine (After.bind a3).mono fun f W5 H5 st5 _ e5 hh5 q => ?_
      cases f with
      | next s' => exact fun σ5 hs5 => ⟨n, Nat.lt_succ_self _, W5, st5, s', hh5, hs5, q⟩
      | cnt s' => exact fun σ5 hs5 => ⟨n, Nat.lt_succ_self _, W5, st5, s', hh5, hs5, q⟩
      | brk s' => exact fun σ5 hs5 => ⟨s', W5, st5, hh5, hs5, q⟩
      | ret d => exact fun v r => After.pure' (E := E) (k := kDB X.K eN eT Dn) q hh5 v r
    | false =>
      rw [if_neg Bool.false_ne_true]
      rw [if_neg Bool.false_ne_true] at a3
      exact ⟨s, W3, st3, hh3, hs2.ext e3, a3⟩
end
/-! ### zip -/
def zipD : List D → List D → List D
  | x :: xs, y :: ys => .tup [x, y] :: zipD xs ys
  | _, _ => []
theorem zipD_at : ∀ {xs ys : List D} {i : Nat} {p : D}, (zipD xs ys)[i]? = some p → ∃ x y, xs[i]? = some x ∧ ys[i]? = some y ∧ p = .tup [x, y]
  | [], ys, i, p, h => by
    unfold zipD at h
    cases h
  | _ :: _, [], i, p, h => by
    unfold zipD at h
    cases h
  | x :: xs, y :: ys, 0, p, h => by
    unfold zipD at h
    cases h
    exact ⟨x, y, rfl, rfl, rfl⟩
  | x :: xs, y :: ys, i + 1, p, h => by
    unfold zipD at h
    exact zipD_at (xs := xs) (ys := ys) (i := i) h
theorem zipD_len : ∀ xs ys : List D, (zipD xs ys).length = min xs.length ys.length
  | [], ys => by unfold zipD; simp
  | _ :: _, [] => by unfold zipD; simp
  | x :: xs, y :: ys => by
    unfold zipD
    rw [List.length_cons, zipD_len xs ys, List.length_cons, List.length_cons]
    omega
def zipW : D → D → M (List D)
  | .lst xs, .lst ys => pure (zipD xs ys)
  | .tup xs, .tup ys => pure (zipD xs ys)
  | _, _ => M.stuck
section
variable {X : Cx} {E : St → XK} {σd : List Sl} {e e2 : Expr} {me me2 : M D} {p pos tpos : Pos} {elts : List Expr} {kk : Nat}
theorem di_zip (hg : Gl X "zip") (hm : X.mg "zip" = none) (he : DE X E σd e me) (he2 : DE X E σd e2 me2) (hs : starEach [e, e2] X.env = (false, eval e X.env) :: starEach [e2] X.env) (hs2 : starEach [e2] X.env = (false, eval e2 X.env) :: starEach [] X.env)
    (hpl : (backTo pos (starEach [e2] X.env)).any (·.1) = false) : DI X E σd (.Tuple elts kk tpos) (.Call (.Name "zip" p) [e, e2] [] pos) (me >>= fun x => me2 >>= fun y => zipW x y) := by
  refine ⟨pi_imp (RZ.pi_zipA hg hm (pa_cons he.pe (pa_cons he2.pe pa_nil hs2) hs) hs hpl) fun σ H R ⟨W, st, hh, hs, h⟩ => tD_run hh hs h fun d v W1 H1 st1 e1 hh1 hs1 r1 h1 => tD_run hh1 hs1 h1 fun d2 v2 W2 H2 st2 e2 hh2 hs2 r2 h2 => ?_⟩
  have r1' := r1.ext e2
  cases d with
  | lst xs =>
    cases d2 with
    | lst ys =>
      have h3 := After.pure' (a := zipD xs ys) h2 hh2
      obtain ⟨a, vs, rfl, nu, ha, hz, r⟩ := r1'
      obtain ⟨b, ws, rfl, nub, hb, hzb, rb⟩ := r2
      refine ⟨a, b, vs, ws, rfl, .inl ⟨SqL.of ha, SqL.of hb, h3 (by rw [zipD_len]; omega) _ fun W3 H3 st3 e3 hh3 => ?_⟩⟩
      obtain ⟨_, ha3⟩ := e3.at nu ha
      obtain ⟨_, hb3⟩ := e3.at nub hb
      refine ⟨⟨vs, ws, SqL.of ha3, SqL.of hb3, by rw [zipD_len, r.length, rb.length]; omega⟩, fun i q hq => ?_⟩
      obtain ⟨x, y, hx, hy, rfl⟩ := zipD_at hq
      obtain ⟨vx, q1, q2⟩ := (r.ext e3).get hx
      obtain ⟨vy, q3, q4⟩ := (rb.ext e3).get hy
      refine ⟨⟨vs, ws, vx, vy, SqL.of ha3, SqL.of hb3, q1, q3⟩, fun v' H' ⟨T, u, w, e4, e5, e6, e7, e8⟩ => ?_⟩
      subst e4 e6
      have z1 := e7 vs (SqL.of ha3)
      have z2 := e8 ws (SqL.of hb3)
      rw [q1] at z1
      rw [q3] at z2
      cases z1
      cases z2
      exact ⟨W3, Ext.new1 e5, hh3.new1 e5, Rep.newT hh3 e5 (vs := [vx, vy]) ⟨_, _, rfl, q2, _, _, rfl, q4, rfl⟩ (by simp)⟩
    | _ => exact h2.elim
  | tup xs =>
    cases d2 with
    | tup ys =>
      have h3 := After.pure' (a := zipD xs ys) h2 hh2
      have hz : (zipD xs ys).length ≤ 16777216 := by
        rw [zipD_len]
        have := r1'.tupLen
        omega
      obtain ⟨a, vs, rfl, ha, r⟩ := Rep.tupSq r1'
      obtain ⟨b, ws, rfl, hb, rb⟩ := Rep.tupSq r2
      refine ⟨a, b, vs, ws, rfl, .inr ⟨ha, hb, h3 hz _ fun W3 H3 st3 e3 hh3 => ?_⟩⟩
      obtain ⟨a', vs', ea, ha3, r3⟩ := Rep.tupSq (r1'.ext e3)
      obtain ⟨b', ws', eb, hb3, rb3⟩ := Rep.tupSq (r2.ext e3)
      cases ea
      cases eb
      refine ⟨⟨vs', ws', ha3, hb3, by rw [zipD_len, r3.length, rb3.length]; omega⟩, fun i q hq => ?_⟩
      obtain ⟨x, y, hx, hy, rfl⟩ := zipD_at hq
      obtain ⟨vx, q1, q2⟩ := r3.get hx
      obtain ⟨vy, q3, q4⟩ := rb3.get hy
      refine ⟨⟨vs', ws', vx, vy, ha3, hb3, q1, q3⟩, fun v' H' ⟨T, u, w, e4, e5, e6, e7, e8⟩ => ?_⟩
      subst e4 e6
      have z1 := e7 vs' ha3
      have z2 := e8 ws' hb3
      rw [q1] at z1
      rw [q3] at z2
      cases z1
      cases z2
      exact ⟨W3, Ext.new1 e5, hh3.new1 e5, Rep.newT hh3 e5 (vs := [vx, vy]) ⟨_, _, rfl, q2, _, _, rfl, q4, rfl⟩ (by simp)⟩
    | _ => exact h2.elim
  | _ => cases d2 <;> exact h2.elim
end
/-! ### min of a tuple of ints -/
def dMin1 : D → M D
  | .tup xs => ofO (intsOf xs) >>= fun ns => match ns with
    | [] => M.stuck
    | n :: r => pure (.int (r.foldl min n))
  | _ => M.stuck
def rMinT (K : PySem.W.Frag) : List V → Hp → VK → Prop := fun vs H Q => ∃ (a : Addr) (n : Int) (r : List Int), vs = [V.ref a] ∧ SqT K H a ((n :: r).map V.int) ∧ Q (.int (r.foldl min n)) H
theorem readsInts {h : Heap} : ∀ {ns : List Int} {us : List Value}, Vals (ns.map V.int) us → ReadsAll h us (ns.map PyData.int) []
  | [], _, .nil => .nil
  | n :: ns, _, .cons r t => by
    obtain ⟨k, rfl⟩ := r
    exact .cons (as := []) (bs := []) (.int n k) (readsInts t)
theorem depthInts : ∀ ns : List Int, PyData.depthAll (ns.map PyData.int) = 0
  | [] => by unfold PyData.depthAll; rfl
  | n :: ns => by
    rw [List.map_cons]
    unfold PyData.depthAll
    rw [depthInts ns]
    unfold PyData.depth
    rfl
theorem cr_minT {X : Cx} (hc : X.calm = true) (hu : X.A.units + 65 < cLine) : CallR X (.builtin "min") (rMinT X.K) := by
  intro pins s σ H vs us Q I r h
  obtain ⟨a, n, ns, rfl, hs, q⟩ := h
  obtain ⟨its, rv, hl, _⟩ := I.tuple hs
  rw [Vals.ref1 r]
  refine PySem.W.min_tuple_data (I.ok.hd hc) (show s.heap.IsTuple a its.toArray from hl) (x := .int n) (xs := ns.map .int) (as := []) (readsInts rv) ?_ ?_ fun i v h' tk bs hv rd hk => ?_
  · refine ⟨fun x hx y hy => ?_, fun x hx e => ?_⟩
    · rw [show (PyData.int n :: ns.map .int) = (n :: ns).map PyData.int from rfl] at hx hy
      obtain ⟨a, _, rfl⟩ := List.mem_map.mp hx
      obtain ⟨b, _, rfl⟩ := List.mem_map.mp hy
      unfold PySem.W.alike
      rfl
    · rw [show (PyData.int n :: ns.map .int) = (n :: ns).map PyData.int from rfl] at hx
      obtain ⟨a, _, rfl⟩ := List.mem_map.mp hx
      cases e
  · rw [show (PyData.int n :: ns.map .int) = (n :: ns).map PyData.int from rfl, depthInts]
    omega
  · rw [PySem.W.minD_ints] at rd
    cases rd with
    | int _ k => exact ⟨.int _, H, I.kept (t' := tk) hk, ⟨_, rfl⟩, q⟩
theorem rc_minT {K : PySem.W.Frag} : RC1 K (rMinT K) dMin1 := by
  intro W H st x dx Q E hh rx h
  cases dx with
  | tup xs =>
    obtain ⟨ns, e, h'⟩ := ofO_run (f := fun ns => match ns with
      | [] => M.stuck
      | n :: r => (pure (D.int (r.foldl min n)) : M D)) h
    obtain ⟨a, vs, rfl, ha, r⟩ := Rep.tupSq rx
    rw [intsOf_eq e] at r
    rw [r.ints] at ha
    cases ns with
    | nil => exact h'.elim
    | cons n ns => exact ⟨a, n, ns, rfl, ha, After.pure' h' hh _ rfl⟩
  | _ => exact h.elim
/-! ### {"a": x, "b": y, "c": z}[i] -/
def pick3 (s1 s2 s3 : List Nat) (x y z : D) : D → M D
  | .str cs => if cs = s1 then pure x else if cs = s2 then pure y else if cs = s3 then pure z else M.stuck
  | _ => M.stuck
section
variable {K : PySem.W.Frag} {σd : List Sl} {E : DL.St → XK} {W Wi : Wd} {H Hi : Hp} {σ : DL.St} {sti : Store} {m : M D} {β : Type} {f : D → M β} {k : β → Wd → Hp → Store → Prop} {Q : VK}
/-- one step, seen from where all began -/
theorem tD_base (hs : Slots K W H σd σ) (e : Ext W Wi H Hi) (hh : Holds K Wi Hi sti) (h : After K W H (E σ) ((m >>= f) sti) k) (g : ∀ d v W' H' st', Ext Wi W' Hi H' → Holds K W' H' st' → Rep K W' H' v d → After K W H (E σ) (f d st') k → Q v H') : tD K σd E m σ Hi Q :=
  ⟨Wi, sti, hh, hs.ext e, ((After.bind h).shift e).mono fun d W' H' st' q e' hh' _ v r => g d v W' H' st' e' hh' r (by rw [bind_ok q] at h; exact h)⟩
theorem tD_pureB {d : D} (hs : Slots K W H σd σ) (e : Ext W Wi H Hi) (hh : Holds K Wi Hi sti) (g : ∀ v W' H', Ext Wi W' Hi H' → Holds K W' H' sti → Rep K W' H' v d → Q v H') : tD K σd E (pure d) σ Hi Q :=
  ⟨Wi, sti, hh, hs.ext e, fun W' H' e' hh' v r => g v W' H' e' hh' r⟩
end
section
variable {X : Cx} {E : DL.St → XK} {σd : List Sl} {k1 k2 k3 a b c ie : Expr} {ma mb mc mi : M D} {p1 p2 : Pos} {s1 s2 s3 : List Nat}
theorem mkS_ne {a b : List Nat} (h : a ≠ b) : (Sum.inr (mkS a) : Key) ≠ .inr (mkS b) := fun e => h (by
  have e1 : mkS a = mkS b := Sum.inr.inj e
  have := congrArg (fun z : Str => z.cps.toList) e1
  simpa using this)
theorem de_pick3 (hu : X.A.units + 65 < cLine) (h12 : s1 ≠ s2) (h13 : s1 ≠ s3) (h23 : s2 ≠ s3) (hk1 : DE X E σd k1 (pure (.str s1))) (hk2 : DE X E σd k2 (pure (.str s2))) (hk3 : DE X E σd k3 (pure (.str s3))) (ha : DE X E σd a ma) (hb : DE X E σd b mb) (hc : DE X E σd c mc) (hi : DE X E σd ie mi) (hs : NoSl ie) :
    DE X E σd (.Subscript (.Dict [some k1, some k2, some k3] [a, b, c] p1) ie p2) (ma >>= fun x => mb >>= fun y => mc >>= fun z => mi >>= fun i => pick3 s1 s2 s3 x y z i) := by
  refine ⟨pe_imp (pe_dget (by omega) (pe_disp (pps_cons hk1.pe ha.pe (pps_cons hk2.pe hb.pe (pps_cons hk3.pe hc.pe pps_nil))) rfl rfl (List.cons_ne_nil _ _) (show (3 : Nat) ≤ 15 by decide)) hi.pe hs) fun σ H Q ⟨W, st, hh, hs, h⟩ p hp => ?_⟩
  have e0 : Ext W (W.with p) H (upd H p (.dK [])) := Ext.with hp
  have keepD : ∀ {Wa Wb : Wd} {Ha Hb : Hp} {o : HO}, (p ∉ Wa.mu ∧ Wa.U p ∧ Ha p = some o) → Ext Wa Wb Ha Hb → p ∉ Wb.mu ∧ Wb.U p ∧ Hb p = some o := fun ⟨hm, hu, hd⟩ e => by
    refine ⟨fun z => ?_, e.u0 _ _ hu hm hd, e.keep _ _ (fun _ => hm) hd⟩
    rcases e.memMu z with z | z
    · exact hm z
    · rw [hd] at z; cases z
  have d0 : p ∉ (W.with p).mu ∧ (W.with p).U p ∧ (upd H p (.dK [])) p = some (.dK []) := ⟨hh.muDom p hp, .inr rfl, upd_same⟩
  refine tD_pureB hs e0 (hh.with hp) fun vk1 W1 H1 e1 hh1 rk1 => ?_
  have a1 := e0.trans e1
  refine tD_base hs a1 hh1 h fun x vx W2 H2 st2 e2 hh2 rx h2 => ?_
  have a2 := a1.trans e2
  refine tD_pureB hs a2 hh2 fun vk2 W3 H3 e3 hh3 rk2 => ?_
  have a3 := a2.trans e3
  refine tD_base hs a3 hh3 h2 fun y vy W4 H4 st4 e4 hh4 ry h4 => ?_
  have a4 := a3.trans e4
  refine tD_pureB hs a4 hh4 fun vk3 W5 H5 e5 hh5 rk3 => ?_
  have a5 := a4.trans e5
  refine tD_base hs a5 hh5 h4 fun z vz W6 H6 st6 e6 hh6 rz h6 => ?_
  have a6 := a5.trans e6
  have d6 := keepD (keepD (keepD (keepD (keepD (keepD d0 e1) e2) e3) e4) e5) e6
  have rx6 := (((rx.ext e3).ext e4).ext e5).ext e6
  have ry6 := (ry.ext e5).ext e6
  obtain ⟨m6, u6, q6⟩ := d6
  obtain ⟨rfl, _⟩ : vk1 = .str (mkS s1) ∧ sOk s1 = true := rk1
  obtain ⟨rfl, _⟩ : vk2 = .str (mkS s2) ∧ sOk s2 = true := rk2
  obtain ⟨rfl, _⟩ : vk3 = .str (mkS s3) ∧ sOk s3 = true := rk3
  refine ⟨q6, [(.inr (mkS s1), vx), (.inr (mkS s2), vy), (.inr (mkS s3), vz)], rfl, show (3 : Nat) ≤ 15 by decide, ?_⟩
  have a7 := a6.mine (o := .dK (mergeK [] [(.inr (mkS s1), vx), (.inr (mkS s2), vy), (.inr (mkS s3), vz)])) hp
  have hh7 := hh6.mine (o := .dK (mergeK [] [(.inr (mkS s1), vx), (.inr (mkS s2), vy), (.inr (mkS s3), vz)])) u6 m6
  have rx7 := Rep.upd (K := X.K) (o := .dK (mergeK [] [(.inr (mkS s1), vx), (.inr (mkS s2), vy), (.inr (mkS s3), vz)])) u6 _ _ rx6
  have ry7 := Rep.upd (K := X.K) (o := .dK (mergeK [] [(.inr (mkS s1), vx), (.inr (mkS s2), vy), (.inr (mkS s3), vz)])) u6 _ _ ry6
  have rz7 := Rep.upd (K := X.K) (o := .dK (mergeK [] [(.inr (mkS s1), vx), (.inr (mkS s2), vy), (.inr (mkS s3), vz)])) u6 _ _ rz
  refine tD_base hs a7 hh7 h6 fun i vi W8 H8 st8 e8 hh8 ri h8 => ?_
  have a8 := a7.trans e8
  obtain ⟨m8, u8, q8⟩ := keepD ⟨m6, u6, upd_same⟩ e8
  cases i with
  | str cs =>
    obtain ⟨rfl, _⟩ : vi = .str (mkS cs) ∧ sOk cs = true := ri
    have g : ∀ v, valV (mergeK [] [(.inr (mkS s1), vx), (.inr (mkS s2), vy), (.inr (mkS s3), vz)]) (.inr (mkS cs) : Key) = some v → DGet H8 p (.str (mkS cs)) (some v) := fun v e => by
      rw [← e]
      exact DGet.k (k := .inr (mkS cs)) q8
    have vv : ∀ j : Key, valV (mergeK [] [(.inr (mkS s1), vx), (.inr (mkS s2), vy), (.inr (mkS s3), vz)]) j = if j = .inr (mkS s3) then some vz else if j = .inr (mkS s2) then some vy else if j = .inr (mkS s1) then some vx else none := fun j => by
      show valV (putK (putK (putK [] _ _) _ _) _ _) j = _
      rw [valV_put, valV_put, valV_put]
      rfl
    have h9 : After X.K W H (E σ) ((if cs = s1 then pure x else if cs = s2 then pure y else if cs = s3 then pure z else M.stuck : M D) st8) _ := h8
    by_cases q1 : cs = s1
    · rw [if_pos q1] at h9
      subst q1
      refine ⟨p, vx, rfl, g _ ?_, After.pure' (h9.shift a8) hh8 _ (rx7.ext e8)⟩
      rw [vv, if_neg (mkS_ne h13), if_neg (mkS_ne h12), if_pos rfl]
    rw [if_neg q1] at h9
    by_cases q2 : cs = s2
    · rw [if_pos q2] at h9
      subst q2
      refine ⟨p, vy, rfl, g _ ?_, After.pure' (h9.shift a8) hh8 _ (ry7.ext e8)⟩
      rw [vv, if_neg (mkS_ne h23), if_pos rfl]
    rw [if_neg q2] at h9
    by_cases q3 : cs = s3
    · rw [if_pos q3] at h9
      subst q3
      refine ⟨p, vz, rfl, g _ ?_, After.pure' (h9.shift a8) hh8 _ (rz7.ext e8)⟩
      rw [vv, if_pos rfl]
    rw [if_neg q3] at h9
    exact h9.elim
  | _ => exact h8.elim
end
section
variable {X : Cx} {E : XK} {σd : List Sl} {N T : Type} {eN : N → List Sl} {eT : T → List Sl} {ss : List Stmt} {pos px py pz pt pt2 : Pos} {a b c : Expr} {ma mb mc : M D} {x y z : Str}
/-- x, y, z = a, b, c: plain names -/
theorem db_par3 {kt k2 : Nat} {mr : D → D → D → M (Fl N T)} (i j l : Nat) (ha : DE X (fun _ => E) σd a ma) (hb : DE X (fun _ => E) σd b mb) (hcc : DE X (fun _ => E) σd c mc) (hc : X.calm = true) (hN : X.N.Nodup) (hi : X.N[i]? = some x) (hj : X.N[j]? = some y) (hl : X.N[l]? = some z) (hij : i ≠ j) (hil : i ≠ l) (hjl : j ≠ l)
    (hx : X.env.scope.names.lookup x = some .local) (hy : X.env.scope.names.lookup y = some .local) (hz : X.env.scope.names.lookup z = some .local) (s1 : starEach [a, b, c] X.env = (false, eval a X.env) :: starEach [b, c] X.env) (s2 : starEach [b, c] X.env = (false, eval b X.env) :: starEach [c] X.env) (s3 : starEach [c] X.env = (false, eval c X.env) :: starEach [] X.env)
    (hw : swappedStores [.Tuple [.Name x px, .Name y py, .Name z pz] kt pt] (.Tuple [a, b, c] k2 pt2) X.env = pure (some [x, y, z])) (hs : swapsWithSole [.Tuple [.Name x px, .Name y py, .Name z pz] kt pt] (.Tuple [a, b, c] k2 pt2) pos.line X.env = pure false)
    (hr : ∀ d e f, DB X E (((σd.set i (.val d)).set j (.val e)).set l (.val f)) ss eN eT (mr d e f)) :
    DB X E σd (.Assign [.Tuple [.Name x px, .Name y py, .Name z pz] kt pt] (.Tuple [a, b, c] k2 pt2) pos :: ss) eN eT (ma >>= fun d => mb >>= fun e => mc >>= fun f => mr d e f) :=
  ⟨pss_imp (pss_cons (ps_par3 (i := i) (j := j) (l := l) hc hN hi hj hl hij hil hjl hx hy hz (pa_cons ha.pe (pa_cons hb.pe (pa_cons hcc.pe pa_nil s3) s2) s1) hw hs) (pss_ex fun q : D × D × D => (hr q.1 q.2.1 q.2.2).pss)) fun Dn σ H ⟨W, st, hh, hs, h⟩ =>
    tD_run (E := fun _ => E) hh hs h fun d v W1 H1 st1 e1 hh1 hs1 r1 h1 => tD_run (E := fun _ => E) hh1 hs1 h1 fun d2 v2 W2 H2 st2 e2 hh2 hs2 r2 h2 => tD_run (E := fun _ => E) hh2 hs2 h2 fun d3 v3 W3 H3 st3 e3 hh3 hs3 r3 h3 =>
      ⟨v, v2, v3, rfl, (d, d2, d3), W3, st3, hh3, ((hs3.put i ((r1.ext e2).ext e3)).put j (r2.ext e3)).put l r3, h3⟩⟩
end
end DL
/-! DL16: len(set(texts)), len(set(ints)). -/
namespace DL
open PySem PySem.Spec L2 PyProof.Rows
/-- all that are met, each once -/
def dd1 {α : Type} [BEq α] (acc : List α) (x : α) : List α := if acc.any (· == x) = true then acc else acc ++ [x]
def dd {α : Type} [BEq α] (xs : List α) : List α := xs.foldl dd1 []
section
variable {α : Type} [BEq α] [LawfulBEq α]
theorem dd1_any (acc : List α) (x k : α) : (dd1 acc x).any (· == k) = (acc.any (· == k) || (x == k)) := by
  unfold dd1
  by_cases h : acc.any (· == x) = true
  · rw [if_pos h]
    cases e : x == k with
    | false => rw [Bool.or_false]
    | true =>
      rw [eq_of_beq e] at h
      rw [h]
      rfl
  · rw [if_neg h, List.any_append]
    simp
theorem dd_step {xs : List α} {i : Nat} {x : α} (h : xs[i]? = some x) : dd (xs.take (i + 1)) = dd1 (dd (xs.take i)) x := by
  unfold dd
  rw [List.take_add_one, h, List.foldl_append]
  rfl
theorem dd_le (xs : List α) : ∀ i, (dd (xs.take i)).length ≤ i := fun i => by
  have key : ∀ (l acc : List α), (l.foldl dd1 acc).length ≤ acc.length + l.length := fun l => by
    induction l with
    | nil => intro acc; exact Nat.le_refl _
    | cons a l ih =>
      intro acc
      rw [List.foldl_cons, List.length_cons]
      have h1 := ih (dd1 acc a)
      have h2 : (dd1 acc a).length ≤ acc.length + 1 := by
        unfold dd1
        by_cases h : acc.any (· == a) = true
        · rw [if_pos h]; omega
        · rw [if_neg h, List.length_append, List.length_singleton]; omega
      omega
  have := key (xs.take i) []
  rw [List.length_take] at this
  unfold dd
  simp only [List.length_nil] at this
  omega
end
theorem strs_ix : ∀ {us : List Value} {xs : List Str}, StrsAre us xs → ∀ {i : Nat} {v : Value}, us[i]? = some v → ∃ x t, xs[i]? = some x ∧ v = .str x t
  | _, _, .nil, _, _, h => nomatch h
  | _, _, .cons x t _, 0, _, h => by cases h; exact ⟨x, t, rfl, rfl⟩
  | _, _, .cons _ _ r, i + 1, _, h => strs_ix r (i := i) h
section
variable {P : Program} {w : World} {A : Around} {Rr : PySem.Result → Shared → Prop} {it : Addr} {fp wr : List Addr} {G : Array GenState → Array GenState → Prop} {n : Nat} {Pv : Nat → Value → Prop} {St : Nat → Shared → Prop}
abbrev Half (P : Program) (w : World) (h : Heap) (S : Addr) (xs : List Str) (i : Nat) : Prop := h.SetOf (PySem.strKind P w) S (fun z => (dd (xs.take i)).any (· == z)) (dd (xs.take i)).length
theorem half_at {h h' : Heap} {S : Addr} {xs : List Str} {i : Nat} (x : Half P w h S xs i) (k : ∀ o, h.get? S = some o → h'.get? S = some o) : Half P w h' S xs i :=
  let ⟨o, es, ep, t, ho, r⟩ := x
  ⟨o, es, ep, t, k o ho, r⟩
theorem texts_in (W : WalksS P w A.in1 it fp wr G n Pv St) (S : Addr) (nf : S ∉ fp) (xs : List Str) (hn : n + 1 < scanBound) (hv : ∀ i v, Pv i v → ∃ x t, xs[i]? = some x ∧ v = .str x t) :
    ∀ (left i : Nat) (s : Shared), i + left = n → St i s → Half P w s.heap S xs i → (∀ s', Moved (S :: wr) G s s' → Half P w s'.heap S xs n → Rr (.ok (.ret .none)) s') →
      codeAny (model P w) A (.builtin "set.update.loop" ⟨[.ref S, .ref it], []⟩) Rr s := by
  have nw : S ∉ wr := fun z => nf (W.sub _ z)
  have sub : ∀ b ∈ wr, b ∈ S :: wr := fun b z => List.mem_cons_of_mem _ z
  intro left
  induction left with
  | zero =>
    intro i s e st hS fin
    obtain rfl : i = n := e
    refine codeAny_builtin PyProof.Rows.F.entry_set_update_loop ?_
    rw [Around.under_plainId PyProof.Rows.F.plain_set_update_loop _]
    show wpAny _ A.in1 (pyNext (.ref it) >>= _) _ _ s
    refine wpAny_bind (W.done s _ _ st fun s2 mv => ?_)
    show wpAny _ A.in1 (ret Value.none) _ _ s2
    exact wpAny_pure (fin s2 (mv.mono sub) (half_at hS fun o q => mv.heap S o nw q))
  | succ left ih =>
    intro i s e st hS fin
    have lt : i < n := by omega
    refine codeAny_builtin PyProof.Rows.F.entry_set_update_loop ?_
    rw [Around.under_plainId PyProof.Rows.F.plain_set_update_loop _]
    show wpAny _ A.in1 (pyNext (.ref it) >>= _) _ _ s
    refine wpAny_bind (W.item i s _ _ lt st fun v s2 hP st2 mv => ?_)
    obtain ⟨x, t, hx, rfl⟩ := hv i v hP
    have hS2 := half_at (h' := s2.heap) hS fun o q => mv.heap S o nw q
    show wpAny _ A.in1 (holding [Value.str x t] (setAdd S (.str x t)) >>= _) _ _ s2
    refine wpAny_bind (wpAny_holding ?_)
    unfold setAdd
    refine wpAny_holding (wpAny_bind ((PySem.strKind P w).pyHash (k := x) (strKind_is _ _ _ _) ?_))
    have rm := dd_le xs i
    refine wpAny_setAddHashed_of (knd := PySem.strKind P w) (s := { s2 with toks := s2.toks + 1 }) (strKind_is _ _ _ _) rfl hS2 (by omega) fun h3 sb hS3 => ?_
    have hS4 : Half P w h3 S xs (i + 1) := by
      have e1 := dd_step hx
      refine SetOf_congr hS3 (fun z => ?_) ?_
      · rw [e1, dd1_any]
        congr 1
        by_cases q : z = x
        · subst q; simp
        · rw [decide_eq_false q]
          exact (beq_eq_false_iff_ne.mpr fun z' => q z'.symm).symm
      · rw [e1]
        unfold dd1
        by_cases q : (dd (xs.take i)).any (· == x) = true
        · rw [if_pos q, if_pos q]
        · rw [if_neg q, if_neg q, List.length_append]; rfl
    refine wpAny_pure ⟨plainId_quiet PyProof.Rows.F.plain_set_update_loop _, ih (i + 1) _ (by omega) (W.frame _ s2 _ _ st2 (Nat.le_succ _) fun b hb o q => ?_) hS4 fun s5 mv5 hS5 => ?_⟩
    · rw [sb.2 b fun z => nf (by rw [← z]; exact hb)]
      exact q
    · refine fin s5 (Moved.trans W.gtrans ((mv.mono sub).then_heap (Nat.le_succ _) fun b o nb q => ?_) mv5) hS5
      rw [sb.2 b fun z => nb (by rw [z]; exact List.mem_cons_self)]
      exact q
end
section
variable {P : Program} {w : World} {A : Around} {E : Value → Shared → Prop} {s : Shared}
/-- what stands where set() was called -/
abbrev freshSet (led : Bool) : Obj := { cls := .type "set", dict := none, data := .set #[] 0 (.fresh 0 0 led) }
/-- set(l): made, then filled -/
theorem set_made {l : Addr} {Q : Value → Shared → Prop} (R1 : Shared → Prop)
    (fill : ∀ led : Bool, wpAny (model P w) A.in1.in1 (Builtin.«set.__init__» ⟨[.ref s.heap.objs.size, .ref l], []⟩)
      (fun f s' => match f with | .done f => wants (fun r s2 => r = .none ∧ R1 s2) E (.ok f) s' | .again c' => c'.quiet = true ∧ codeAny (model P w) A.in1 c' (wants (fun r s2 => r = .none ∧ R1 s2) E) s')
      (fun e s' => wants (fun r s2 => r = .none ∧ R1 s2) E (.error e) s') { s with heap := s.heap.push (freshSet led) })
    (k : ∀ s2, R1 s2 → Q (.ref s.heap.objs.size) s2) : wpAny (model P w) A (call (.type "set") [.ref l]) Q E s := by
  obtain ⟨c1, t1, m1⟩ := PySem.F.called_set.mro
  have x1 := PySem.F.called_set.made; have x2 := PySem.F.called_set.sub
  have x3 := PySem.F.called_set.notType; have x4 := PySem.F.called_set.canCreate; have x5 := PySem.F.typeCall_set_1 (.ref l)
  refine wpAny_call (codeAny_of_tree ?_); show wpAny _ _ (callAny (.type "set") _) _ _ _
  refine wpAny_pure ⟨Code.quiet_builtin _ (by decide +kernel), codeAny_builtin PySem.F.entry_type_call ?_⟩; rw [Around.under_plain (weight_type_call_type "set" [.ref l] []) rfl]
  repeat (any_goals (first | assumption | wp_step))
  refine codeAny_mono (code_set_new_1 (.ref l) (E := E) (Q₁ := fun ob s1 => ∃ led : Bool, ob = .ref s.heap.objs.size ∧ s1 = { s with heap := s.heap.push (freshSet led) }) fun led => ⟨led, rfl, rfl⟩) fun r s1 hr => ?_
  cases r with
  | error e => exact hr
  | ok f1 =>
    cases f1 with
    | ret ob =>
      obtain ⟨led, rfl, rfl⟩ := hr
      have ty : Shared.TypeIs { s with heap := s.heap.push (freshSet led) } (.ref s.heap.objs.size) "set" := ⟨_, Heap.get?_push_size _ rfl, rfl⟩
      have y1 := PySem.F.called_set.init.lookup; have y2 := PySem.F.called_set.init.bind (.ref s.heap.objs.size)
      repeat (any_goals (first | assumption | wp_step))
      refine codeAny_mono (codeAny_call_builtin (R := wants (fun r s2 => r = .none ∧ R1 s2) E) PySem.F.called_set.init.plain PySem.F.entry_set_init (check_set_init_1 ty (fill led))) fun r2 s2 hr2 => ?_
      cases r2 with
      | error e => exact hr2
      | ok f2 =>
        cases f2 with
        | ret v =>
          obtain ⟨rfl, q⟩ := hr2
          have kk := k s2 q
          repeat (any_goals (first | assumption | wp_step))
        | _ => exact hr2.elim
    | _ => exact hr.elim
theorem call_setTx {l : Addr} {items : Array Value} {xs : List Str} {Q : Value → Shared → Prop} (hh : A.handled = none) (hl : s.heap.IsList l items) (hi : StrsAre items.toList xs) (hb : items.size + 1 < scanBound)
    (k : ∀ (h' : Heap) (tk : Nat), Half P w h' s.heap.objs.size xs items.size → (∀ b o, b < s.heap.objs.size → s.heap.get? b = some o → h'.get? b = some o) → Q (.ref s.heap.objs.size) { s with heap := h', toks := tk }) : wpAny (model P w) A (call (.type "set") [.ref l]) Q E s := by
  refine set_made (fun s2 => ∃ h' tk, s2 = { s with heap := h', toks := tk } ∧ Half P w h' s.heap.objs.size xs items.size ∧ ∀ b o, b < s.heap.objs.size → s.heap.get? b = some o → h'.get? b = some o) (fun led => ?_) fun s2 ⟨h', tk, e, q1, q2⟩ => by subst e; exact k h' tk q1 q2
  have at0 : (s.heap.push (freshSet led)).get? s.heap.objs.size = some (freshSet led) := Heap.get?_push_size _ rfl
  obtain ⟨⟨oc, od, oda, osl⟩, ol, z1, nl, z2⟩ := hl
  simp only at z1 z2
  subst z1 z2
  have ll : l < s.heap.objs.size := Heap.lt_size ol
  have ol2 : (s.heap.push (freshSet led)).get? l = some { cls := .type "list", dict := od, data := .seq items nl, slots := osl } := Heap.get?_push_of_some _ ol
  have w1 := PySem.F.sub_list_set; have w2 := PySem.F.sub_list_frozenset
  have w3 : (Value.type "list" == Value.type "dict") = false := by decide
  have il : (s.heap.push (freshSet led)).IsList l items := ⟨_, ol2, rfl, nl, rfl⟩
  unfold Builtin.«set.__init__» Builtin.Frozenset.updateFrom noKeywords; generalize ee : pyIter = PI
  wp_walk
  subst ee
  refine wpAny_pyIter_list il (wpAny_bind (wpAny_runValue ?_))
  have hh3 : A.in1.in1.in1.handled = none := by simp [hh]
  have sz1 : (s.heap.push (freshSet led)).objs.size = s.heap.objs.size + 1 := Heap.size_push ..
  have ne1 : l ≠ (s.heap.push (freshSet led)).objs.size := by rw [sz1]; exact Nat.ne_of_lt (Nat.lt_succ_of_lt ll)
  have nf : s.heap.objs.size ∉ [(s.heap.push (freshSet led)).objs.size, l] := fun z => by
    rw [sz1] at z
    rcases List.mem_cons.mp z with z | z
    · exact absurd z (Nat.ne_of_lt (Nat.lt_succ_self _))
    · exact absurd (List.mem_singleton.mp z) (Nat.ne_of_gt ll)
  have hv : ∀ (i : Nat) (v : Value), items[i]? = some v → ∃ x t, xs[i]? = some x ∧ v = .str x t := fun i v q => strs_ix hi (by rw [Array.getElem?_toList]; exact q)
  refine texts_in ((Walks.list hh3 _ l ne1 items).toS) s.heap.objs.size nf xs hb hv items.size 0 _ (Nat.zero_add _) ⟨⟨_, Heap.get?_push_size _ rfl, rfl, rfl⟩, il.push _⟩ ?_ ?_
  · have at1 : ((s.heap.push (freshSet led)).push { cls := .type "list_iterator", data := .fields #[.ref l, .int 0 0] }).get? s.heap.objs.size = some (freshSet led) := Heap.get?_push_of_some _ at0
    exact SetOf_congr ((setObjOf_fresh (knd := PySem.strKind P w) led).setOf at1 (by unfold scanBound; omega)) (fun _ => rfl) rfl
  · intro s' mv q
    obtain ⟨h2, g2, d2, t2, o2⟩ := s'
    obtain rfl : g2 = s.gens := mv.gens
    obtain rfl : d2 = s.drawn := mv.drawn
    obtain rfl : o2 = s.os := mv.os
    show wpAny _ _ _ _ _ _
    refine wpAny_pure (wpAny_pure ⟨rfl, h2, t2, rfl, q, fun b o lt e => ?_⟩)
    refine mv.heap b o (fun z => ?_) (Heap.get?_push_of_some _ (Heap.get?_push_of_some _ e))
    rcases List.mem_cons.mp z with z | z
    · exact absurd z (Nat.ne_of_lt lt)
    · rw [List.mem_singleton.mp z, sz1] at lt
      omega
end
end DL
/-! DL17: len(set(..)) as a word; list.index; lists of lists frozen. -/
namespace DL
open PySem PySem.Spec L2 PyProof.Rows
/-! ### len(set(e)) -/
theorem strs_vals : ∀ {xs : List Str} {us : List Value}, Vals (xs.map V.str) us → StrsAre us xs
  | [], _, .nil => .nil
  | x :: xs, _, .cons r t => by
    obtain ⟨k, rfl⟩ := r
    exact .cons x k (strs_vals t)
theorem ints_vals : ∀ {xs : List Int} {us : List Value}, Vals (xs.map V.int) us → IntsAre us xs
  | [], _, .nil => .nil
  | x :: xs, _, .cons r t => by
    obtain ⟨k, rfl⟩ := r
    exact .cons x k (ints_vals t)
theorem dd_map (cs : List (List Nat)) : (dd (cs.map mkS)).length = (dd cs).length := by
  have key : ∀ (l acc : List (List Nat)), (l.map mkS).foldl dd1 (acc.map mkS) = (l.foldl dd1 acc).map mkS := fun l => by
    induction l with
    | nil => intro acc; rfl
    | cons a l ih =>
      intro acc
      rw [List.map_cons, List.foldl_cons, List.foldl_cons, ← ih]
      congr 1
      unfold dd1
      have e : (acc.map mkS).any (· == mkS a) = acc.any (· == a) := by
        rw [List.any_map]
        congr 1
        funext b
        exact mkS_beq b a
      rw [e]
      by_cases h : acc.any (· == a) = true
      · rw [if_pos h, if_pos h]
      · rw [if_neg h, if_neg h, List.map_append]; rfl
  have := key cs []
  unfold dd
  rw [List.map_nil] at this
  rw [this, List.length_map]
theorem first_dd (ns : List Int) : firstMet (fun i => ns.getD i 0) ns.length = dd ns := by
  have e : (List.range ns.length).map (fun i => ns.getD i 0) = ns := by
    refine List.ext_getElem (by simp) fun i h1 h2 => ?_
    simp [List.getD_eq_getElem?_getD, List.getElem?_eq_getElem h2]
  unfold firstMet dd
  rw [e]
  rfl
/-- how many unlike ones -/
def dLenSet (d : D) : M D := asLL d >>= fun xs => match strsOf xs with
  | some cs => if cs.length ≤ 4000 then pure (.int ((dd cs).length : Nat)) else M.stuck
  | none => match intsOf xs with
    | some ns => if ns.length ≤ 4000 then pure (.int ((dd ns).length : Nat)) else M.stuck
    | none => M.stuck
section
variable {X : Cx} {E : DL.St → XK} {σd : List Sl} {a : Expr} {ma : M D} {p p2 q pos : Pos}
theorem de_lenSet (hg : Gl X "len") (hm : X.mg "len" = none) (hg2 : Gl X "set") (hm2 : X.mg "set" = none) (hc : X.calm = true) (ha : DE X E σd a ma) (na : starEach [a] X.env = (false, eval a X.env) :: starEach [] X.env) :
    DE X E σd (.Call (.Name "len" p) [.Call (.Name "set" p2) [a] [] q] [] pos) (ma >>= dLenSet) := by
  refine ⟨⟨fun pins s σ H Q I ⟨W, st, hh, hs, h⟩ => Call_ (ld_blt I hg hm boot_len (PyProof.Rows.callWith_builtin1 (PyProof.Rows.args_cons ?_ rfl) rfl rfl))⟩⟩
  refine Call_ (ld_blt I hg2 hm2 boot_set (PyProof.Rows.callWith_type1 (PyProof.Rows.args_cons ?_ na) na rfl))
  have q0 : tD X.K σd E ma σ H fun x H1 => ∃ (l : Addr) (k : Nat), x = .ref l ∧ Q (.int k) H1 ∧ ((∃ zs : List Str, SqL X.K H1 l (zs.map V.str) ∧ zs.length ≤ 4000 ∧ k = (dd zs).length) ∨ ∃ ns : List Int, SqL X.K H1 l (ns.map V.int) ∧ ns.length ≤ 4000 ∧ k = (dd ns).length) :=
    tD_run hh hs h fun d v W1 H1 st1 e1 hh1 hs1 r1 h1 => by
      obtain ⟨b, vs, xs, rfl, hq, hz, r', h'⟩ := asLL_run hh1 r1 h1
      cases e : strsOf xs with
      | some cs =>
        rw [e] at h'
        have h2 : After X.K W1 H1 (E σ) ((if cs.length ≤ 4000 then pure (.int ((dd cs).length : Nat)) else M.stuck : M D) st1) _ := h'
        by_cases hl : cs.length ≤ 4000
        · rw [if_pos hl] at h2
          rw [strsOf_eq e] at r'
          rw [r'.strs] at hq
          exact ⟨b, _, rfl, After.pure' h2 hh1 _ rfl, .inl ⟨cs.map mkS, hq, by rw [List.length_map]; exact hl, (dd_map cs).symm⟩⟩
        · rw [if_neg hl] at h2
          exact h2.elim
      | none =>
        rw [e] at h'
        cases e2 : intsOf xs with
        | some ns =>
          rw [e2] at h'
          have h2 : After X.K W1 H1 (E σ) ((if ns.length ≤ 4000 then pure (.int ((dd ns).length : Nat)) else M.stuck : M D) st1) _ := h'
          by_cases hl : ns.length ≤ 4000
          · rw [if_pos hl] at h2
            rw [intsOf_eq e2] at r'
            rw [r'.ints] at hq
            exact ⟨b, _, rfl, After.pure' h2 hh1 _ rfl, .inr ⟨ns, hq, hl, rfl⟩⟩
          · rw [if_neg hl] at h2
            exact h2.elim
        | none =>
          rw [e2] at h'
          exact h'.elim
  refine thn (ha.pe.run pins s σ H _ I q0) fun v s1 ⟨x, H1, I1, rx, l, k, ex, qk, q1⟩ => PyProof.Rows.args_nil ?_
  subst ex
  cases rx
  rcases q1 with ⟨zs, hq, hl, ek⟩ | ⟨ns, hq, hl, ek⟩
  · obtain ⟨its, r, pl, hz⟩ := I1.list hq
    have hlen : its.toArray.size = zs.length := by rw [List.size_toArray, ← r.length, List.length_map]
    refine call_setTx (I1.ok.hd hc) pl.isList (by simpa using strs_vals r) (by rw [hlen]; unfold scanBound; omega) fun h' tk hS hk => ?_
    obtain ⟨o, es, ep, t, ho, hex, hd, _, _, hb, hf, hn⟩ := hS
    have I2 : Inv X pins σ H1 { s1 with heap := h', toks := tk } := I1.kept fun b o e => hk b o (Heap.lt_size e) e
    rw [hlen, List.take_length, ← ek] at hn
    exact PyProof.Rows.args_nil (call_len_set (s := { s1 with heap := h', toks := tk }) ho hex hd hf (by unfold scanBound at hb; omega) ⟨.int k, H1, I2.tok _, ⟨_, by rw [hn]⟩, qk⟩)
  · obtain ⟨its, r, pl, hz⟩ := I1.list hq
    have hlen : its.toArray.size = ns.length := by rw [List.size_toArray, ← r.length, List.length_map]
    refine call_set_list (I1.ok.hd hc) pl.isList (by simpa using ints_vals r) (by rw [hlen]; unfold scanBound; omega) fun h' tk hS hk => ?_
    obtain ⟨o, es, ep, t, ho, hex, hd, _, _, hb, hf, hn⟩ := hS
    have I2 : Inv X pins σ H1 { s1 with heap := h', toks := tk } := I1.kept fun b o e => hk b o (Heap.lt_size e) e
    rw [hlen, first_dd, ← ek] at hn
    exact PyProof.Rows.args_nil (call_len_set (s := { s1 with heap := h', toks := tk }) ho hex hd hf (by unfold scanBound at hb; omega) ⟨.int k, H1, I2.tok _, ⟨_, by rw [hn]⟩, qk⟩)
end
/-! ### xs.index(i), ints -/
def ixOf (ns : List Int) (i : Int) : Option Nat := ns.findIdx? (· == i)
def isLs : D → M Unit
  | .lst _ => pure ()
  | _ => M.stuck
def dIxOf : D → D → M D
  | .lst xs, .int i => ofO (intsOf xs) >>= fun ns => ofO (ixOf ns i) >>= fun k => pure (.int (k : Nat))
  | _, _ => M.stuck
section
variable {X : Cx} {E : DL.St → XK} {σd : List Sl} {o e : Expr} {mo me : M D} {apos cpos : Pos}
theorem de_index (ho : DE X E σd o mo) (he : DE X E σd e me) (hs : starEach [e] X.env = [(false, eval e X.env)]) (hbase : attributeBase o "index" X.env (eval o X.env) = eval o X.env)
    (hfew : ((backTo cpos (starEach [e] X.env)).all (fun x => !x.1) && (backToKw cpos (keywordEach [] X.env)).all (fun x => x.1.isSome) && decide (([e] : List Expr).length + ([] : List Keyword).length + (if ([] : List Keyword).isEmpty then 0 else 1) < 30)) = true)
    (hline : (apos.endLine == cpos.line) = true) : DE X E σd (.Call (.Attribute o "index" apos) [e] [] cpos) (mo >>= fun x => isLs x >>= fun _ => me >>= fun y => dIxOf x y) :=
  ⟨pe_imp (pe_bm PySem.F.plainAttrs_list PySem.F.slot_list_index PySem.F.type_list_index mt_index ho.pe (pa_cons he.pe pa_nil hs) hbase hfew hline (by rw [hs]; rfl) rfl) fun σ H Q ⟨W, st, hh, hs, h⟩ =>
    tD_run hh hs h fun d v W1 H1 st1 e1 hh1 hs1 r1 h1 => by
      cases d with
      | lst xs =>
        have ty : tyV X.K "list" v H1 := by
          obtain ⟨a, vs, rfl, nu, ha, hz, r⟩ := r1
          exact .inl ⟨rfl, vs, SqL.of ha⟩
        refine ⟨ty, tD_run hh1 hs1 h1 fun d2 v2 W2 H2 st2 e2 hh2 hs2 r2 h2 => ?_⟩
        cases d2 with
        | int i =>
          obtain ⟨ns, en, h3⟩ := ofO_run (f := fun ns => ofO (ixOf ns i) >>= fun k => (pure (D.int (k : Nat)) : M D)) h2
          obtain ⟨k, ek, h4⟩ := ofO_run (f := fun k => (pure (D.int (k : Nat)) : M D)) h3
          obtain ⟨a, vs, rfl, nu, ha, hz, r⟩ := r1.ext e2
          rw [intsOf_eq en] at r
          have rv := r.ints
          subst rv
          obtain ⟨hk, hb, hno⟩ := List.findIdx?_eq_some_iff_getElem.mp ek
          have rv2 : v2 = .int i := r2
          subst rv2
          refine ⟨a, _, .int i, k, .int ns[k], rfl, rfl, SqL.of ha, rfl, ?_, ?_, ?_, ?_, After.pure' h4 hh2 _ rfl⟩
          · rw [List.all_map, List.all_eq_true]
            intro x _
            rfl
          · rw [List.getElem?_map, List.getElem?_eq_getElem hk]; rfl
          · exact hb
          · intro m z hm hz
            rw [List.getElem?_map, List.getElem?_eq_getElem (by omega)] at hz
            cases hz
            have := hno m hm
            simpa [eqV] using this
        | _ => exact h2.elim
      | _ => exact h1.elim⟩
end
/-! ### lists of cells, frozen with all that they hold -/
def frzs : List D → M (List D)
  | [] => pure []
  | d :: ds => frz d >>= fun d => frzs ds >>= fun ds => pure (d :: ds)
def frz2 (d : D) : M D := frz d >>= fun
  | .lst xs => frzs xs >>= fun xs => pure (.lst xs)
  | d => pure d
section
variable {K : PySem.W.Frag} {E : XK}
theorem frzs_run {α : Type} {k : α → Wd → Hp → Store → Prop} : ∀ {ds : List D} {vs : List V} {W : Wd} {H : Hp} {st : Store} {f : List D → M α}, Holds K W H st → Reps K W H vs ds → After K W H E ((frzs ds >>= f) st) k → ∃ W' st' ds', Ext W W' H H ∧ Holds K W' H st' ∧ Reps K W' H vs ds' ∧ After K W' H E (f ds' st') k
  | [], _, W, H, st, f, hh, r, h => ⟨W, st, [], Ext.refl, hh, r, h⟩
  | d :: ds, _, W, H, st, f, hh, r, h => by
    obtain ⟨v, vs, rfl, r1, r2⟩ := r
    have h0 : After K W H E ((frz d >>= fun d => frzs ds >>= fun ds => f (d :: ds)) st) k := by
      have e : (frzs (d :: ds) >>= f) = (frz d >>= fun d => frzs ds >>= fun ds => f (d :: ds)) := by
        rw [frzs, M.bind_assoc]
        congr 1
        funext d'
        rw [M.bind_assoc]
        rfl
      rw [← e]
      exact h
    obtain ⟨W1, st1, d1, e1, hh1, rr1, h1⟩ := frz_run hh r1 h0
    obtain ⟨W2, st2, ds2, e2, hh2, rr2, h2⟩ := frzs_run (f := fun ds => f (d1 :: ds)) hh1 (r2.ext e1) h1
    exact ⟨W2, st2, d1 :: ds2, e1.trans e2, hh2, ⟨v, vs, rfl, rr1.ext e2, rr2⟩, h2⟩
end
section
variable {X : Cx} {E : DL.St → XK} {σd : List Sl} {e : Expr} {ma : M D}
theorem de_frz2 (ha : DE X E σd e ma) : DE X E σd e (ma >>= frz2) :=
  ⟨pe_imp ha.pe fun σ H Q ⟨W, st, hh, hs, h⟩ => tD_run hh hs h fun d v W1 H1 st1 e1 hh1 hs1 r1 (h1 : Fin X.K W1 H1 (E σ) (frz2 d st1) Q) => by
    obtain ⟨W2, st2, d2, e2, hh2, r2, h2⟩ := frz_run (f := fun d => match d with
      | .lst xs => frzs xs >>= fun xs => (pure (D.lst xs) : M D)
      | d => pure d) hh1 r1 h1
    cases d2 with
    | lst xs =>
      obtain ⟨a, vs, rfl, nu, ha, hz, r⟩ := r2
      obtain ⟨W3, st3, ds3, e3, hh3, r3, h3⟩ := frzs_run hh2 r h2
      have hl : ds3.length = xs.length := by rw [← r3.length, ← r.length]
      obtain ⟨n3, a3⟩ := e3.at nu ha
      exact After.pure' h3 hh3 _ ⟨a, vs, rfl, n3, a3, by rw [hl]; exact hz, r3⟩
    | _ => exact After.pure' h2 hh2 _ r2⟩
end
/-! ### list(range(e)) -/
def dLstRng (fin : List D → M D) : D → M D
  | .int n => if n < 16777216 ∧ -16777216 ≤ n then fin (upFrom 0 n.toNat) else M.stuck
  | _ => M.stuck
section
variable {X : Cx} {E : DL.St → XK} {σd : List Sl} {a : Expr} {ma : M D} {p p2 pos pos2 : Pos} {fin : List D → M D}
theorem de_listRng (hf : FinOk X.K fin) (hc : X.calm = true) (hg : Gl X "list") (hm : X.mg "list" = none) (hg2 : Gl X "range") (hm2 : X.mg "range" = none) (ha : DE X E σd a ma) (na : starEach [a] X.env = (false, eval a X.env) :: starEach [] X.env)
    (na2 : starEach [.Call (.Name "range" p2) [a] [] pos2] X.env = (false, eval (.Call (.Name "range" p2) [a] [] pos2) X.env) :: starEach [] X.env) :
    DE X E σd (.Call (.Name "list" p) [.Call (.Name "range" p2) [a] [] pos2] [] pos) (ma >>= dLstRng fin) :=
  ⟨pe_imp (pe_listRg hc hg hm (prg_1 hg2 hm2 ha.pe na) na2) fun σ H Q ⟨W, st, hh, hs, h⟩ => tD_run hh hs h fun d v W1 H1 st1 e1 hh1 hs1 r1 h1 => by
    cases d with
    | int n =>
      have h2 : After X.K W1 H1 (E σ) ((if n < 16777216 ∧ -16777216 ≤ n then fin (upFrom 0 n.toNat) else M.stuck : M D) st1) _ := h1
      by_cases hz : n < 16777216 ∧ -16777216 ≤ n
      · rw [if_pos hz] at h2
        have r1' : v = .int n := r1
        subst r1'
        refine ⟨n, rfl, ⟨by omega, by omega, by omega, by omega, by omega⟩, fun q hq => hf.new hh1 hq (by rw [upFrom_len]; omega) ?_ h2⟩
        have e : upFrom 0 n.toNat = ((List.range n.toNat).map fun (i : Nat) => 0 + (i : Int)).map D.int := by unfold upFrom; rw [List.map_map]; rfl
        have e2 : rgV 0 n = ((List.range n.toNat).map fun (i : Nat) => 0 + (i : Int)).map V.int := by unfold rgV; rw [List.map_map, Int.sub_zero]; rfl
        rw [e, e2]
        exact Reps.ofInts _
      · rw [if_neg hz] at h2
        exact h2.elim
    | _ => exact h1.elim⟩
end
/-! ### a name that may not be set yet -/
@[reducible] def optSl : Option D → Sl
  | some d => .val d
  | none => .none
section
variable {X : Cx} {E : XK} {N T : Type} {eN : N → List Sl} {eT : T → List Sl} {ss : List Stmt}
theorem db_some {o : Option D} {f : Sl → List Sl} {mr : D → M (Fl N T)} (h : ∀ d, DB X E (f (.val d)) ss eN eT (mr d)) : DB X E (f (optSl o)) ss eN eT (ofO o >>= mr) := by
  cases o with
  | some d => exact h d
  | none => exact ⟨pss_imp (h .non).pss fun Dn σ H ⟨W, st, hh, hs, q⟩ => q.elim⟩
end
end DL
/-! DL18: the values of a dict with tuple keys, walked. -/
namespace DL
open PySem PySem.Spec PyProof.Rows L2
section
variable {X : Cx} {pins : List (Addr × Obj)} {σ : St} {H : Hp} {s : Shared} {d : Addr} {o : Obj} {kvs : List (List L2.Key × V)}
/-- what a locked dict holds, entry by entry -/
theorem lck_vals (J : Inv X pins σ H s) (h : H d = some (.frz o (.dT kvs))) : (d == sysModules) = false ∧ ∃ es ep, s.heap.DictRaw d es ep ∧ es.size = kvs.length ∧ o.data = .dict es ep ∧ ∀ (i : Nat) (p : List L2.Key × V), kvs[i]? = some p → ∃ (hi : i < es.size), RelV p.2 es[i].val := by
  obtain ⟨g1, z1, z2, xs, pr, o2, es, ep, g2, ex, od, he, nd⟩ := J.hok d _ h
  have oo : o2 = o := by
    rw [g1] at g2
    exact (Option.some.inj g2).symm
  subst oo
  have es_len : es.size = xs.length := by
    have := congrArg List.length he
    rw [Array.length_toList, List.length_map] at this
    exact this
  refine ⟨z2, es, ep, ⟨o2, g1, ex, od⟩, by rw [es_len]; exact (Paired.length pr).symm, od, fun i p hp => ?_⟩
  obtain ⟨q, hq, _, _, rv⟩ := paired_get pr hp
  have hi : i < es.size := by
    rw [es_len]
    exact (List.getElem?_eq_some_iff.mp hq).1
  refine ⟨hi, ?_⟩
  have e1 : es.toList[i]? = some es[i] := by
    rw [Array.getElem?_toList, Array.getElem?_eq_getElem hi]
  rw [he, List.getElem?_map, hq] at e1
  have e2 := Option.some.inj e1
  rw [← e2]
  exact rv
end
/-- the values in their order -/
def ItvT (d : Addr) (o : Obj) (kvs : List (List L2.Key × V)) : It :=
  ⟨fun i G => i < kvs.length ∧ G d = some (.frz o (.dT kvs)), fun i G x G' => (∃ k, kvs[i]? = some (k, x)) ∧ G' = G, fun i G => kvs.length ≤ i ∧ G d = some (.frz o (.dT kvs))⟩
section
variable {P : Program} {w : World} {K : PySem.W.Frag} {tg : Expr} {d : Addr} {o : Obj} {es : Array DictEntry} {ep : Nat}
theorem turn_vT {kvs : List (List L2.Key × V)} (j : Addr) (od : o.data = .dict es ep) : Turn P w K tg (ItvT d o kvs) [j] j (fun i h => h.IsValIter j d i kvs.length ep) where
  mem := List.mem_singleton.mpr rfl
  obj := fun i h st b hb => by
    obtain rfl := List.mem_singleton.mp hb
    obtain ⟨ob, g, _, f⟩ := st
    exact ⟨ob, g, fun v z => by rw [f] at z; cases z⟩
  keep := fun i h h2 st k => st.at fun ob g => k j (List.mem_singleton.mpr rfl) ob g
  item := by
    intro X eP ew eK calm i pins s σ H E J free st go
    subst eP ew eK
    obtain ⟨hi, hd⟩ := go
    obtain ⟨a0, a1, a2, a3, a4, a5⟩ := free j (List.mem_singleton.mpr rfl)
    obtain ⟨_, es2, ep2, raw, sz, od2, ent⟩ := lck_vals J hd
    obtain ⟨rfl, rfl⟩ := dict_ep od od2
    obtain ⟨p, hp⟩ : ∃ p, kvs[i]? = some p := ⟨kvs[i], List.getElem?_eq_getElem hi⟩
    obtain ⟨hi2, rv⟩ := ent i p hp
    rw [← sz] at st
    refine wpAny_pyNext_values_item_raw st raw hi2 fun h2 st2 sb => ?_
    have J2 : Inv X pins σ H { s with heap := h2 } := J.turned (t' := s.toks) (fun b ob nb g => (sb.2 b nb).trans g) a0 a1 a3 a4 a5
    obtain ⟨ob, g, cl, dt⟩ := id st2
    refine ⟨_, rfl, go_of (s := { s with heap := h2 }) g cl dt (by decide) ⟨p.2, H, J2, rv, ⟨⟨p.1, hp⟩, rfl⟩, ?_, fun b nb => (free b nb).1⟩⟩
    show h2.IsValIter j d (i + 1) kvs.length _
    rw [← sz]
    exact st2
  done := by
    intro X eP ew eK calm i pins s σ H E J free st go
    subst eP ew eK
    obtain ⟨hi, hd⟩ := go
    obtain ⟨a0, a1, a2, a3, a4, a5⟩ := free j (List.mem_singleton.mpr rfl)
    obtain ⟨_, es2, ep2, raw, sz, od2, ent⟩ := lck_vals J hd
    obtain ⟨rfl, rfl⟩ := dict_ep od od2
    rw [← sz] at st
    exact wpAny_pyNext_values_end_raw (J.ok.hd calm) st raw (by rw [sz]; exact hi) fun h2 eb => ⟨rfl, J.turned (t' := s.toks) (fun b ob nb g => eb b ob nb g) a0 a1 a3 a4 a5⟩
  self := fun A i s Q E st k => wpAny_pyIter_valiter st k
end
def iVT (td : TE) : TI := fun σ H R => td σ H fun x G => ∃ d o kvs, x = .ref d ∧ G d = some (.frz o (.dT kvs)) ∧ R (ItvT d o kvs) G
theorem pi_vT {X : Cx} {tg e : Expr} {td : TE} {apos cpos : Pos} (he : PE X e td) (hb : attributeBase e "values" X.env (eval e X.env) = eval e X.env) (hl : (apos.endLine == cpos.line) = true) : PI X tg (.Call (.Attribute e "values" apos) [] [] cpos) (iVT td) := by
  refine ⟨fun pins s σ H R J h => ?_⟩
  refine wpAny_Call_method (T := "dict") (id := "dict.values") hb rfl hl PySem.F.plainAttrs_dict PySem.F.slot_dict_values PySem.F.type_dict_values (thn (he.run pins s σ H _ J h) fun u s1 ⟨x, G, J1, rx, d, o, kvs, ex, hd, q⟩ => ?_)
  subst ex
  obtain rfl : u = Value.ref d := rx
  obtain ⟨nm, es, ep, raw, sz, od, ent⟩ := lck_vals J1 hd
  obtain ⟨oo, g1, ex, od2⟩ := id raw
  refine ⟨⟨oo, g1, ex.1⟩, fun b eb => by cases eb; exact ⟨oo, g1, ex.2.1⟩, ?_⟩
  have J2 : Inv X pins σ G { s1 with heap := s1.heap.push { cls := .type "dict_values", data := .fields #[.ref d] } } := J1.kept (t' := s1.toks) fun b ob z => Heap.get?_push_of_some _ z
  have fin : wpAny (model X.prog X.w) X.A (pyIter (.ref s1.heap.objs.size)) (PIE X pins σ tg R) X.xe { s1 with heap := s1.heap.push { cls := .type "dict_values", data := .fields #[.ref d] } } := by
    refine wpAny_pyIter_values_raw (d := d) (es := es) (ep := ep) ⟨_, Heap.get?_push_size _ rfl, rfl, rfl⟩ ⟨oo, Heap.get?_push_of_some _ g1, ex, od2⟩ (pi_one (tk := s1.toks) J2 _ (turn_vT _ od) ⟨_, Heap.get?_push_size _ rfl, rfl, ?_⟩ q)
    rw [sz] <;> rfl
  show wpAny _ _ (callWith cpos (.builtin "dict.values") [.ref d] [] []) _ X.xe s1
  exact method_meetsIn PySem.F.slot_dict_values PySem.F.entry_dict_values rfl (PySem.evalArgs_none ⟨rfl, ⟨oo, g1, ex.1⟩, PySem.F.args_dict_values_1 _, _, meets_dict_values_raw d nm, ⟨es, ep, raw⟩, fin⟩)
end DL
/-! DL19: dicts with tuples of texts as keys; the greatest of a list. -/
namespace DL
open PySem PySem.Spec PyProof.Rows L2
abbrev kyS (ks : List (List Nat)) : List L2.Key := ks.map fun k => .inr (mkS k)
theorem kyS_kV (ks : List (List Nat)) : (kyS ks).map kV = ks.map fun k => V.str (mkS k) := by
  rw [List.map_map]
  rfl
/-- what stands at a key -/
def lkD (kvs : List (List L2.Key × D)) (k : List L2.Key) : Option D := (kvs.find? fun p => decide (p.1 = k)).map (·.2)
def ptD (kvs : List (List L2.Key × D)) (k : List L2.Key) (d : D) : List (List L2.Key × D) :=
  if (kvs.any fun p => decide (p.1 = k)) = true then kvs.map (fun p => if p.1 = k then (p.1, d) else p) else kvs ++ [(k, d)]
section
variable {K : PySem.W.Frag} {W : Wd} {H : Hp} {E : XK}
theorem fs_len : ∀ {kvs : List (List L2.Key × D)} {vs : List (List L2.Key × V)}, FsOk K W H vs kvs → vs.length = kvs.length
  | [], _, h => by
    have q : _ = [] := h
    rw [q]
    rfl
  | p :: r, _, h => by
    obtain ⟨v, r2, rfl, _, h2⟩ := h
    rw [List.length_cons, List.length_cons, fs_len h2]
theorem fs_get (k : List L2.Key) : ∀ {kvs : List (List L2.Key × D)} {vs : List (List L2.Key × V)}, FsOk K W H vs kvs → (lkD kvs k = none ∧ valV vs k = none) ∨ ∃ d v, lkD kvs k = some d ∧ valV vs k = some v ∧ Rep K W H v d
  | [], _, h => by
    have q : _ = [] := h
    rw [q]
    exact .inl ⟨rfl, rfl⟩
  | p :: r, _, h => by
    obtain ⟨x, d⟩ := p
    obtain ⟨v, r2, rfl, h1, h2⟩ := h
    by_cases e : x = k
    · refine .inr ⟨d, v, ?_, valV_pos e, h1⟩
      unfold lkD
      rw [List.find?_cons_of_pos (by simp [e])]
      rfl
    · have e2 : lkD ((x, d) :: r) k = lkD r k := by
        unfold lkD
        rw [List.find?_cons_of_neg (by simp [e])]
      have e3 : valV ((x, v) :: r2) k = valV r2 k := valV_neg (p := (x, v)) e
      rw [e2, e3]
      exact fs_get k h2
theorem fs_any (k : List L2.Key) : ∀ {kvs : List (List L2.Key × D)} {vs : List (List L2.Key × V)}, FsOk K W H vs kvs → (vs.any fun p => decide (p.1 = k)) = kvs.any fun p => decide (p.1 = k)
  | [], _, h => by
    have q : _ = [] := h
    rw [q]
    rfl
  | p :: r, _, h => by
    obtain ⟨x, d⟩ := p
    obtain ⟨v, r2, rfl, h1, h2⟩ := h
    rw [List.any_cons, List.any_cons, fs_any k h2]
theorem fs_map (k : List L2.Key) {y : V} {z : D} (hy : Rep K W H y z) : ∀ {kvs : List (List L2.Key × D)} {vs : List (List L2.Key × V)}, FsOk K W H vs kvs → FsOk K W H (vs.map fun p => if p.1 = k then (p.1, y) else p) (kvs.map fun p => if p.1 = k then (p.1, z) else p)
  | [], _, h => by
    have q : _ = [] := h
    rw [q]
    rfl
  | p :: r, _, h => by
    obtain ⟨x, d⟩ := p
    obtain ⟨v, r2, rfl, h1, h2⟩ := h
    by_cases e : x = k
    · rw [List.map_cons, List.map_cons, if_pos e, if_pos e]
      exact ⟨y, _, rfl, hy, fs_map k hy h2⟩
    · rw [List.map_cons, List.map_cons, if_neg e, if_neg e]
      exact ⟨v, _, rfl, h1, fs_map k hy h2⟩
theorem fs_snoc {k : List L2.Key} {y : V} {z : D} (hy : Rep K W H y z) : ∀ {kvs : List (List L2.Key × D)} {vs : List (List L2.Key × V)}, FsOk K W H vs kvs → FsOk K W H (vs ++ [(k, y)]) (kvs ++ [(k, z)])
  | [], _, h => by
    have q : _ = [] := h
    rw [q]
    exact ⟨y, [], rfl, hy, rfl⟩
  | p :: r, _, h => by
    obtain ⟨x, d⟩ := p
    obtain ⟨v, r2, rfl, h1, h2⟩ := h
    exact ⟨v, _, rfl, h1, fs_snoc hy h2⟩
theorem fs_put (k : List L2.Key) {y : V} {z : D} (hy : Rep K W H y z) {kvs : List (List L2.Key × D)} {vs : List (List L2.Key × V)} (h : FsOk K W H vs kvs) : FsOk K W H (putK vs k y) (ptD kvs k z) := by
  unfold putK ptD
  rw [fs_any k h]
  split
  · exact fs_map k hy h
  · exact fs_snoc hy h
theorem fs_at : ∀ {kvs : List (List L2.Key × D)} {vs : List (List L2.Key × V)}, FsOk K W H vs kvs → ∀ {i : Nat} {d : D}, (kvs.map (·.2))[i]? = some d → ∃ p, vs[i]? = some p ∧ Rep K W H p.2 d
  | [], _, _, i, d, hd => by cases hd
  | p :: r, _, h, i, d, hd => by
    obtain ⟨x, d0⟩ := p
    obtain ⟨v, r2, rfl, h1, h2⟩ := h
    cases i with
    | zero =>
      cases hd
      exact ⟨_, rfl, h1⟩
    | succ i => exact fs_at h2 (i := i) hd
end
/-! ### {} -/
def newD : M D := fun st => .ok (.ref st.length) (st ++ [.dic []])
section
variable {X : Cx} {E : DL.St → XK} {σd : List Sl} {o e e2 : Expr} {mo me me2 : M D} {pos apos cpos : Pos}
theorem de_newD : DE X E σd (.Dict [] [] pos) newD :=
  ⟨pe_imp pe_dnewT fun σ H Q ⟨W, st, hh, hs, h⟩ p hp => by
    have e0 : Ext W (W.with p) H (upd H p (.dT [])) := Ext.with hp
    have hh0 : Holds X.K (W.with p) (upd H p (.dT [])) st := hh.with hp
    have hh1 := hh0.cell' (c := .dic []) (.inr rfl) (fun m => hh.muDom p hp m) ⟨.inr rfl, [], upd_same, rfl⟩
    refine h ((W.with p).cell p) _ (e0.cell hp) hh1 _ ⟨p, rfl, ?_⟩
    show (W.mu ++ [p])[st.length]? = some p
    rw [← hh.len, List.getElem?_concat_length]⟩
/-! ### a tuple of texts, new -/
def dKeyT : D → M D
  | .lst xs => ofO (strsOf xs) >>= fun ks => pure (.kt ks)
  | _ => M.stuck
theorem rc_keyT {K : PySem.W.Frag} : RC1 K (fun xs H Q => ∃ p ys, xs = [.ref p] ∧ ((SqL K H p ys ∧ ∀ l, H l = none → Q (.ref l) (upd H l (.tup ys))) ∨ (SqT K H p ys ∧ Q (.ref p) H))) dKeyT := by
  intro W H st x dx Q E hh rx h
  cases dx with
  | lst xs =>
    obtain ⟨ks, ek, h1⟩ := ofO_run (f := fun ks => (pure (D.kt ks) : M D)) h
    obtain ⟨a, vs, rfl, nu, ha, hz, r⟩ := rx
    rw [strsOf_eq ek] at r
    have rv := r.strs
    refine ⟨a, vs, rfl, .inl ⟨SqL.of ha, fun l hl => ?_⟩⟩
    subst rv
    refine h1 W _ (Ext.new1 hl) (hh.new1 hl) _ ⟨l, rfl, hh.fresh hl, ?_⟩
    rw [upd_same, List.map_map]
    rfl
  | _ => exact h.elim
/-! ### g.get(k, x) -/
def rdG (i : Nat) : M (List (List L2.Key × D)) := fun st => match st[i]? with
  | some (.dic kvs) => .ok kvs st
  | _ => .stuck
theorem rdG_cases (i : Nat) (st : Store) : (∃ kvs, st[i]? = some (.dic kvs) ∧ rdG i st = .ok kvs st) ∨ rdG i st = .stuck := by
  unfold rdG
  cases e : st[i]? with
  | none => exact .inr rfl
  | some c =>
    cases c with
    | dic kvs => exact .inl ⟨kvs, rfl, rfl⟩
    | _ => exact .inr rfl
def isG : D → M Unit
  | .ref i => rdG i >>= fun _ => pure ()
  | _ => M.stuck
def getD : D → D → D → M D
  | .ref i, .kt ks, x => rdG i >>= fun kvs => pure ((lkD kvs (kyS ks)).getD x)
  | _, _, _ => M.stuck
theorem dic_at {K : PySem.W.Frag} {W : Wd} {H : Hp} {st : Store} {i : Nat} {v : V} {kvs : List (List L2.Key × D)} (hh : Holds K W H st) (r : Rep K W H v (.ref i)) (hs : st[i]? = some (.dic kvs)) : ∃ a vs, v = .ref a ∧ W.mu[i]? = some a ∧ W.U a ∧ H a = some (.dT vs) ∧ FsOk K W H vs kvs := by
  obtain ⟨a, rfl, hm⟩ := r
  obtain ⟨u, vs, h1, h2⟩ := hh.cell i _ a hs hm
  exact ⟨a, vs, rfl, hm, u, h1, h2⟩
theorem de_getD (hu : X.A.units + 65 < cLine) (ho : DE X E σd o mo) (he : DE X E σd e me) (he2 : DE X E σd e2 me2) (m : M2 X o "get" apos e e2 cpos) : DE X E σd (.Call (.Attribute o "get" apos) [e, e2] [] cpos) (mo >>= fun g => isG g >>= fun _ => me >>= fun k => me2 >>= fun x => getD g k x) :=
  ⟨pe_imp (pe_dget2 (by omega) ho.pe he.pe he2.pe m) fun σ H Q ⟨W, st, hh, hs, h⟩ => tD_run hh hs h fun g vg W1 H1 st1 e1 hh1 hs1 r1 h1 => by
    cases g with
    | ref i =>
      have h1' : After X.K W1 H1 (E σ) (((rdG i >>= fun _ => pure ()) >>= fun _ => me >>= fun k => me2 >>= fun x => getD (.ref i) k x) st1) fun d W' H' _ => ∀ v, Rep X.K W' H' v d → Q v H' := h1
      rw [M.bind_assoc] at h1'
      rcases rdG_cases i st1 with ⟨kvs, q, q2⟩ | q
      · rw [bind_ok q2, M.pure_bind] at h1'
        obtain ⟨a, vs, rfl, hm, u, ha, fs⟩ := dic_at hh1 r1 q
        refine ⟨a, rfl, .inr ⟨vs, .inl ha⟩, tD_run hh1 hs1 h1' fun k vk W2 H2 st2 e2' hh2 hs2 r2 h2 => tD_run hh2 hs2 h2 fun x vx W3 H3 st3 e3 hh3 hs3 r3 h3 => ?_⟩
        cases k with
        | kt ks =>
          have h4 : After X.K W3 H3 (E σ) ((rdG i >>= fun kvs => pure ((lkD kvs (kyS ks)).getD x)) st3) fun d W' H' _ => ∀ v, Rep X.K W' H' v d → Q v H' := h3
          rcases rdG_cases i st3 with ⟨kvs3, q3, q4⟩ | q3
          · rw [bind_ok q4] at h4
            have r1' : Rep X.K W3 H3 (.ref a) (.ref i) := (r1.ext e2').ext e3
            obtain ⟨a3, vs3, ea, hm3, u3, ha3, fs3⟩ := dic_at hh3 r1' q3
            cases ea
            obtain ⟨b, rfl, nb, hb⟩ := r2.ext e3
            rw [← kyS_kV] at hb
            refine ⟨_, DGet.t ha3 hb, ?_⟩
            rcases fs_get (kyS ks) fs3 with ⟨n1, n2⟩ | ⟨d, v, s1, s2, rv⟩
            · rw [n2]
              rw [n1] at h4
              exact After.pure' h4 hh3 _ r3
            · rw [s2]
              rw [s1] at h4
              exact After.pure' h4 hh3 _ rv
          · rw [bind_stuck q3] at h4
            exact h4.elim
        | _ => exact h3.elim
      · rw [bind_stuck q] at h1'
        exact h1'.elim
    | _ => exact h1.elim⟩
/-! ### g[k] = x -/
def putD : D → D → D → M Unit
  | .ref i, .kt ks, x => rdG i >>= fun kvs => if kvs.length < 4000 then wrC i (.dic (ptD kvs (kyS ks) x)) else M.stuck
  | _, _, _ => M.stuck
end
section
variable {X : Cx} {E : XK} {σd : List Sl} {N T : Type} {eN : N → List Sl} {eT : T → List Sl} {ss : List Stmt} {o i e : Expr} {mo mi me : M D} {pos p2 : Pos}
theorem db_putD {mr : M (Fl N T)} (hu : X.A.units + 65 < cLine) (he : DE X (fun _ => E) σd e me) (ho : DE X (fun _ => E) σd o mo) (hi : DE X (fun _ => E) σd i mi) (hs : swapsWith e (some (.Subscript o i p2)) pos.line X.env = pure false) (hr : DB X E σd ss eN eT mr) :
    DB X E σd (.Assign [.Subscript o i p2] e pos :: ss) eN eT (me >>= fun x => mo >>= fun g => mi >>= fun k => putD g k x >>= fun _ => mr) :=
  ⟨pss_imp (pss_cons (ps_dput (by omega) ho.pe hi.pe he.pe hs) hr.pss) fun Dn σ H ⟨W, st, hh, hs, h⟩ =>
    tD_run (E := fun _ => E) hh hs h fun x vx W1 H1 st1 e1 hh1 hs1 r1 h1 => tD_run (E := fun _ => E) hh1 hs1 h1 fun g vg W2 H2 st2 e2 hh2 hs2 r2 h2 => tD_run (E := fun _ => E) hh2 hs2 h2 fun k vk W3 H3 st3 e3 hh3 hs3 r3 h3 => by
      cases g with
      | ref j =>
        cases k with
        | kt ks =>
          have h4 : After X.K W3 H3 E (((rdG j >>= fun kvs => if kvs.length < 4000 then wrC j (.dic (ptD kvs (kyS ks) x)) else M.stuck) >>= fun _ => mr) st3) _ := h3
          rw [M.bind_assoc] at h4
          rcases rdG_cases j st3 with ⟨kvs, q3, q4⟩ | q3
          · rw [bind_ok q4] at h4
            obtain ⟨a, vs, rfl, hm, u, ha, fs⟩ := dic_at hh3 (r2.ext e3) q3
            obtain ⟨b, rfl, nb, hb⟩ := r3
            by_cases hl : kvs.length < 4000
            · rw [if_pos hl] at h4
              have hb' := hb
              rw [← kyS_kV] at hb'
              have rx := (r1.ext e2).ext e3
              have fs2 := fs_put (kyS ks) rx fs
              have ex := Ext.wr (H := H3) (o' := .dT (putK vs (kyS ks) vx)) u (List.mem_of_getElem? hm) ha
              have hw := hh3.wr (o' := .dT (putK vs (kyS ks) vx)) (c := .dic (ptD kvs (kyS ks) x)) u hm ha ⟨u, _, upd_same, FsOk.upd u fs2⟩
              refine ⟨a, _, rfl, DPut.t ha hb' (by rw [fs_len fs, sizeLine_eq]; omega), W3, _, hw, hs3.ext ex, ?_⟩
              exact After.shift (show After X.K W3 H3 E (mr (st3.set j (.dic (ptD kvs (kyS ks) x)))) _ from h4) ex
            · rw [if_neg hl] at h4
              exact h4.elim
          · rw [bind_stuck q3] at h4
            exact h4.elim
        | _ => exact h3.elim
      | _ => exact h3.elim⟩
end
end DL
/-! DL20: a dict's values walked while it is locked; the greatest of a list. -/
namespace DL
open PySem PySem.Spec PyProof.Rows L2
section
variable {K : PySem.W.Frag} {W W1 W' : Wd} {H H1 H' : Hp} {a : Addr} {od : Obj} {vs : List (List L2.Key × V)} {o : HO} {st : Store}
theorem Ext.lck (u : W.U a) (hm : a ∈ W.mu) (ha : H a = some o) {o' : HO} : Ext W (W.less a) H (upd H a o') where
  mu := ⟨[], by simp [Wd.less], by simp⟩
  u0 := fun b _ z nm _ => ⟨z, fun e => nm (e ▸ hm)⟩
  new := fun _ z => .inl z.1
  keep := fun b ob q hb => by
    by_cases e : b = a
    · subst e
      exact absurd hm (q u)
    · rw [upd_ne e]
      exact hb
  dom := fun b ob hb => by
    by_cases e : b = a
    · subst e
      exact ⟨_, upd_same⟩
    · exact ⟨ob, by rw [upd_ne e]; exact hb⟩
mutual
theorem Rep.ulk (hf : H a = some (.frz od (.dT vs))) : ∀ (d : D) (v : V), Rep K W H v d → Rep K (W.with a) (upd H a o) v d
  | .non, _, h => h
  | .bl _, _, h => h
  | .int _, _, h => h
  | .str _, _, h => h
  | .lst xs, _, h => by
    obtain ⟨b, us, rfl, nu, hb, hz, r⟩ := h
    have ne : b ≠ a := fun e => by rw [e, hf] at hb; cases hb
    exact ⟨b, us, rfl, fun z => z.elim nu ne, by rw [upd_ne ne]; exact hb, hz, Reps.ulk hf xs us r⟩
  | .tup xs, _, h => by
    obtain ⟨b, us, rfl, h1, hz, r⟩ := h
    refine ⟨b, us, rfl, h1.imp (fun ⟨nu, hb⟩ => ?_) id, hz, Reps.ulk hf xs us r⟩
    have ne : b ≠ a := fun e => by rw [e, hf] at hb; cases hb
    exact ⟨fun z => z.elim nu ne, by rw [upd_ne ne]; exact hb⟩
  | .scr ns, _, h => by
    obtain ⟨b, rfl, h1⟩ := h
    refine ⟨b, rfl, h1.imp (fun ⟨nu, ob, ho, hb⟩ => ?_) id⟩
    have ne : b ≠ a := fun e => by
      rw [e, hf] at hb
      rcases ho with rfl | ⟨_, rfl⟩ <;> cases hb
    exact ⟨fun z => z.elim nu ne, ob, ho, by rw [upd_ne ne]; exact hb⟩
  | .fn _, _, h => h
  | .adr _, _, h => h
  | .kt ks, _, h => by
    obtain ⟨b, rfl, nu, hb⟩ := h
    have ne : b ≠ a := fun e => by rw [e, hf] at hb; cases hb
    exact ⟨b, rfl, fun z => z.elim nu ne, by rw [upd_ne ne]; exact hb⟩
  | .ref i, _, h => h
theorem Reps.ulk (hf : H a = some (.frz od (.dT vs))) : ∀ (ds : List D) (us : List V), Reps K W H us ds → Reps K (W.with a) (upd H a o) us ds
  | [], _, h => h
  | d :: ds, _, h => by
    obtain ⟨v, r, rfl, h1, h2⟩ := h
    exact ⟨v, r, rfl, Rep.ulk hf d v h1, Reps.ulk hf ds r h2⟩
end
theorem FsOk.ulk {κ : Type} (hf : H a = some (.frz od (.dT vs))) : ∀ {fs : List (κ × D)} {us : List (κ × V)}, FsOk K W H us fs → FsOk K (W.with a) (L2.upd H a o) us fs
  | [], _, h => h
  | (x, d) :: fs, _, h => by
    obtain ⟨v, r, rfl, h1, h2⟩ := h
    exact ⟨v, r, rfl, Rep.ulk hf _ _ h1, FsOk.ulk hf h2⟩
/-- unlocked, and never read again -/
theorem Holds.ulk (hh : Holds K W H st) {i : Nat} (hi : W.mu[i]? = some a) (hf : H a = some (.frz od (.dT vs))) : Holds K (W.with a) (upd H a o) (st.set i .dead) where
  len := by rw [List.length_set]; exact hh.len
  nd := hh.nd
  dom := fun b h => by
    by_cases e : b = a
    · subst e; exact ⟨_, upd_same⟩
    · rw [upd_ne e]
      exact hh.dom b (h.elim id fun z => absurd z e)
  muAt := fun b h => by
    by_cases e : b = a
    · subst e; exact ⟨_, upd_same⟩
    · rw [upd_ne e]
      exact hh.muAt b h
  cell := fun j c b h1 h2 => by
    by_cases e : j = i
    · subst e
      rw [List.getElem?_set_self (by rw [← hh.len]; exact (List.getElem?_eq_some_iff.mp hi).1)] at h1
      cases h1
      trivial
    · rw [List.getElem?_set_ne (Ne.symm e)] at h1
      have ne : b ≠ a := fun q => by
        subst q
        exact e (nodup_inj hh.nd h2 hi)
      have c0 := hh.cell j c b h1 h2
      cases c with
      | lst xs => obtain ⟨u1, us, q1, hz, q2⟩ := c0; exact ⟨.inl u1, us, by rw [upd_ne ne]; exact q1, hz, Reps.ulk hf _ _ q2⟩
      | ins C fs => obtain ⟨u1, dx, us, q1, q2⟩ := c0; exact ⟨.inl u1, dx, us, by rw [upd_ne ne]; exact q1, FsOk.ulk hf q2⟩
      | dic fs => obtain ⟨u1, us, q1, q2⟩ := c0; exact ⟨.inl u1, us, by rw [upd_ne ne]; exact q1, FsOk.ulk hf q2⟩
      | lck fs => obtain ⟨u1, ob, us, q1, q2⟩ := c0; exact ⟨fun z => z.elim u1 ne, ob, us, by rw [upd_ne ne]; exact q1, FsOk.ulk hf q2⟩
      | dead => trivial
      | tab x q =>
        obtain ⟨u1, e1, ps, p1, p2, p3⟩ := c0
        refine ⟨.inl u1, e1, ps, by rw [upd_ne ne]; exact p1, p2, fun pos cv hc => ?_⟩
        obtain ⟨c2, e2, nu, hcc⟩ := p3 pos cv hc
        have ne2 : c2 ≠ a := fun z => by
          rw [z, hf] at hcc
          unfold LamX.CodeO at hcc
          cases hcc
        exact ⟨c2, e2, fun z => z.elim nu ne2, by rw [upd_ne ne2]; exact hcc⟩
      | tabG x q l m made =>
        refine tabG_mono .inl (fun o z => by rw [upd_ne ne]; exact z) (fun c2 p2 nu hcc => ?_) (fun _ _ z => z) c0
        have ne2 : c2 ≠ a := fun z => by
          rw [z, hf] at hcc
          cases hcc
        exact ⟨fun z => z.elim nu ne2, by rw [upd_ne ne2]; exact hcc⟩
theorem Ext.ulk (u : W.U a) (hm : a ∈ W.mu) (ha : H a = some o) (e : Ext (W.less a) W' (upd H a (.frz od (.dT vs))) H') {o2 : HO} : Ext W (W'.with a) H (upd H' a o2) := by
  have el := Ext.lck (o' := .frz od (.dT vs)) u hm ha
  have et := el.trans e
  refine ⟨et.mu, fun b ob q nm hb => .inl (et.u0 b ob q nm hb), fun b q => ?_, fun b ob q hb => ?_, fun b ob hb => ?_⟩
  · rcases q with q | rfl
    · exact et.new b q
    · exact .inl u
  · by_cases z : b = a
    · subst z
      exact absurd hm (q u)
    · rw [upd_ne z]
      exact et.keep b ob q hb
  · by_cases z : b = a
    · subst z; exact ⟨_, upd_same⟩
    · rw [upd_ne z]
      exact et.dom b ob hb
end
/-! ### locked while an expression is computed -/
def lckD : D → M Unit
  | .ref i => rdG i >>= fun kvs => wrC i (.lck kvs)
  | _ => M.stuck
def rdK (i : Nat) : M (List (List L2.Key × D)) := fun st => match st[i]? with
  | some (.lck kvs) => .ok kvs st
  | _ => .stuck
theorem rdK_cases (i : Nat) (st : Store) : (∃ kvs, st[i]? = some (.lck kvs) ∧ rdK i st = .ok kvs st) ∨ rdK i st = .stuck := by
  unfold rdK
  cases e : st[i]? with
  | none => exact .inr rfl
  | some c =>
    cases c with
    | lck kvs => exact .inl ⟨kvs, rfl, rfl⟩
    | _ => exact .inr rfl
def ulkD : D → M Unit
  | .ref i => rdK i >>= fun _ => wrC i .dead
  | _ => M.stuck
def valsL : D → M (List D)
  | .ref i => rdK i >>= fun kvs => if kvs.length ≤ 16777216 then pure (kvs.map (·.2)) else M.stuck
  | _ => M.stuck
section
variable {X : Cx} {E : DL.St → XK} {σd : List Sl} {e tg o : Expr} {m mo : M D} {pos apos cpos : Pos} {g : D}
theorem de_lock (i : Nat) (hg : σd[i]? = some (.val g)) (h : DE X E σd e m) : DE X E σd e (lckD g >>= fun _ => m >>= fun r => ulkD g >>= fun _ => pure r) :=
  ⟨pe_imp (pe_lock h.pe) fun σ H Q ⟨W, st, hh, hs, q⟩ => by
    cases g with
    | ref j =>
      have q' : Fin X.K W H (E σ) (((rdG j >>= fun kvs => wrC j (.lck kvs)) >>= fun _ => m >>= fun r => ulkD (.ref j) >>= fun _ => pure r) st) Q := q
      rw [M.bind_assoc] at q'
      rcases rdG_cases j st with ⟨kvs, s1, s2⟩ | s1
      · rw [bind_ok s2] at q'
        obtain ⟨v, v1, v2⟩ := hs.val i _ hg
        obtain ⟨a, vs, rfl, hm, u, ha, fs⟩ := dic_at hh v2 s1
        refine ⟨a, .dT vs, ha, trivial, fun od => ?_⟩
        have hmm := List.mem_of_getElem? hm
        have el := Ext.lck (o' := .frz od (.dT vs)) u hmm ha
        have hl : Holds X.K (W.less a) (upd H a (.frz od (.dT vs))) (st.set j (.lck kvs)) := by
          have h0 := hh.wr (o' := .frz od (.dT vs)) (c := .dead) u hm ha trivial
          have h1 := h0.frz hm
          rw [List.set_set] at h1
          refine ⟨by rw [List.length_set]; exact hh.len, h1.nd, h1.dom, h1.muAt, fun k c b k1 k2 => ?_⟩
          by_cases z : k = j
          · subst z
            rw [List.getElem?_set_self (by rw [← hh.len]; exact (List.getElem?_eq_some_iff.mp hm).1)] at k1
            cases k1
            have k2' : W.mu[k]? = some b := k2
            rw [hm] at k2'
            cases k2'
            exact ⟨fun z => z.2 rfl, od, vs, upd_same, FsOk.ext el fs⟩
          · rw [List.getElem?_set_ne (Ne.symm z)] at k1
            exact h1.cell k c b (by rw [List.getElem?_set_ne (Ne.symm z)]; exact k1) k2
        refine ⟨W.less a, st.set j (.lck kvs), hl, hs.ext el, ?_⟩
        have q2 : Fin X.K W H (E σ) ((m >>= fun r => ulkD (.ref j) >>= fun _ => pure r) (st.set j (.lck kvs))) Q := q'
        rw [M.bind_eq] at q2
        unfold M.bind at q2
        cases hm2 : m (st.set j (.lck kvs)) with
        | stuck =>
          rw [hm2] at q2
          exact q2.elim
        | exc x st2 =>
          rw [hm2] at q2
          have q3 : Fin X.K W H (E σ) (.exc x st2) Q := q2
          intro W' H' C d ex hh' xi
          exact q3 W' H' C d (el.trans ex) hh' xi
        | ok r st2 =>
          rw [hm2] at q2
          have q3 : Fin X.K W H (E σ) (((rdK j >>= fun _ => wrC j .dead) >>= fun _ => pure r) st2) Q := q2
          rw [M.bind_assoc] at q3
          intro W' H' ex hh' v rv
          have na : ¬ (W.less a).U a := fun z => z.2 rfl
          obtain ⟨n1, n2⟩ := ex.at na (upd_same (a := a) (H := H) (o := .frz od (.dT vs)))
          refine ⟨n2, ?_⟩
          rcases rdK_cases j st2 with ⟨kvs2, t1, t2⟩ | t1
          · rw [bind_ok t2] at q3
            have q4 : Fin X.K W H (E σ) (.ok r (st2.set j .dead)) Q := q3
            obtain ⟨t, mu1, _⟩ := ex.mu
            have hm' : W'.mu[j]? = some a := by
              rw [mu1]
              exact (List.getElem?_append_left (show j < (W.less a).mu.length from (List.getElem?_eq_some_iff.mp hm).1)).trans hm
            exact q4 (W'.with a) (upd H' a (.dT vs)) (Ext.ulk u hmm ha ex) (hh'.ulk hm' n2) _ (Rep.ulk n2 _ _ rv)
          · rw [bind_stuck t1] at q3
            exact q3.elim
      · rw [bind_stuck s1] at q'
        exact q'.elim
    | _ => exact q.elim⟩
theorem di_valsL (ho : DE X E σd o mo) (hb : attributeBase o "values" X.env (eval o X.env) = eval o X.env) (hl : (apos.endLine == cpos.line) = true) : DI X E σd tg (.Call (.Attribute o "values" apos) [] [] cpos) (mo >>= valsL) :=
  ⟨pi_imp (pi_vT ho.pe hb hl) fun σ H R ⟨W, st, hh, hs, h⟩ => tD_run hh hs h fun g v W1 H1 st1 e1 hh1 hs1 r1 h1 => by
    cases g with
    | ref j =>
      have h1' : After X.K W1 H1 (E σ) ((rdK j >>= fun kvs => if kvs.length ≤ 16777216 then pure (kvs.map (·.2)) else M.stuck) st1) fun ds W' H' _ => ds.length ≤ 16777216 → ∀ J, Walks X.K J ds W' H' → R J H' := h1
      rcases rdK_cases j st1 with ⟨kvs, t1, t2⟩ | t1
      · rw [bind_ok t2] at h1'
        obtain ⟨a, rfl, hm⟩ := r1
        obtain ⟨nu, od, vs, ha, fs⟩ := hh1.cell j _ a t1 hm
        by_cases hz : kvs.length ≤ 16777216
        case neg =>
          rw [if_neg hz] at h1'
          exact h1'.elim
        rw [if_pos hz] at h1'
        refine ⟨a, od, vs, rfl, ha, After.pure' h1' hh1 ?_ _ ?_⟩
        · rw [List.length_map]
          exact hz
        · intro W2 H2 st2 ex hh2
          obtain ⟨n1, n2⟩ := ex.at nu ha
          have fs2 := FsOk.ext ex fs
          refine ⟨⟨by rw [List.length_map, fs_len fs2]; exact Nat.le_refl _, n2⟩, fun i d hd => ?_⟩
          obtain ⟨p, p1, p2⟩ := fs_at fs2 hd
          refine ⟨⟨(List.getElem?_eq_some_iff.mp p1).1, n2⟩, fun x H' ⟨⟨k, k1⟩, k2⟩ => ?_⟩
          subst k2
          rw [p1] at k1
          cases k1
          exact ⟨W2, Ext.refl, hh2, p2⟩
      · rw [bind_stuck t1] at h1'
        exact h1'.elim
    | _ => exact h1.elim⟩
end
end DL
/-! ### max of a list of ints -/
namespace DL
open PySem PySem.Spec PyProof.Rows L2
def dMax1 (d : D) : M D := asLL d >>= fun xs => ofO (intsOf xs) >>= fun ns => match ns with
  | [] => M.stuck
  | n :: r => pure (.int (r.foldl max n))
theorem foldl_max : ∀ (r : List Int) (n : Int), (∀ y ∈ n :: r, y ≤ r.foldl max n) ∧ r.foldl max n ∈ n :: r
  | [], n => ⟨fun y hy => by rw [List.mem_singleton.mp hy]; exact Int.le_refl _, List.mem_cons_self⟩
  | x :: r, n => by
    obtain ⟨h1, h2⟩ := foldl_max r (max n x)
    rw [List.foldl_cons]
    refine ⟨fun y hy => ?_, ?_⟩
    · have hm := h1 _ List.mem_cons_self
      rcases List.mem_cons.mp hy with rfl | hy
      · exact Int.le_trans (Int.le_max_left _ _) hm
      · rcases List.mem_cons.mp hy with rfl | hy
        · exact Int.le_trans (Int.le_max_right _ _) hm
        · exact h1 y (List.mem_cons_of_mem _ hy)
    · rcases List.mem_cons.mp h2 with q | q
      · rw [q]
        by_cases c : n ≤ x
        · rw [Int.max_eq_right c]
          exact List.mem_cons_of_mem _ List.mem_cons_self
        · rw [Int.max_eq_left (by omega)]
          exact List.mem_cons_self
      · exact List.mem_cons_of_mem _ (List.mem_cons_of_mem _ q)
theorem rc_max1 {K : PySem.W.Frag} : RC1 K (rMax K) dMax1 := by
  intro W H st x dx Q E hh rx h
  obtain ⟨a, vs, xs, rfl, hq, hz, r, h1⟩ := asLL_run hh rx h
  obtain ⟨ns, en, h2⟩ := ofO_run (f := fun ns => match ns with
    | [] => M.stuck
    | n :: r => (pure (D.int (r.foldl max n)) : M D)) h1
  rw [intsOf_eq en] at r
  have rv := r.ints
  subst rv
  cases ns with
  | nil => exact h2.elim
  | cons n r2 =>
    refine ⟨a, n :: r2, rfl, hq, Nat.succ_pos _, fun m hm hall => ?_⟩
    obtain ⟨g1, g2⟩ := foldl_max r2 n
    have e : m = r2.foldl max n := Int.le_antisymm (g1 m hm) (hall _ g2)
    rw [e]
    exact After.pure' h2 hh _ rfl
end DL
/-! DL21: a comprehension over a list that is a cell, and stays one. -/
namespace DL
open PySem PySem.Spec PyProof.Rows L2
/-- read anew at each step -/
def compC {P : Type} (c : Nat) (dec : D → Option P) (test : P → M Bool) (elt : P → M D) : Nat → Nat → M (List D)
  | 0, _ => M.stuck
  | f + 1, k => rdC c >>= fun xs => match xs[k]? with
    | none => pure []
    | some d => match dec d with
      | none => M.stuck
      | some p => nox (test p) >>= fun b => if b = true then nox (elt p) >>= fun y => compC c dec test elt f (k + 1) >>= fun r => pure (y :: r) else compC c dec test elt f (k + 1)
section
variable {K : PySem.W.Frag} {X : Cx} {E : DL.St → XK} {σd : List Sl}
theorem compC_reads {P : Type} {dec : D → Option P} {up : P → List Sl → List Sl} {test : P → M Bool} {elt : P → M D} {fin : List D → M D} {g : TG} {ix vs : List Nat} (hf : FinOk K fin) (hg : GOk K g ix dec up) (hix : ∀ i ∈ ix, i ∈ vs) {c : Nat} {a : Addr} {W : Wd} {H : Hp} {st : Store} {σ : DL.St} {Q : VK} {EE : XK}
    (hm : W.mu[c]? = some a) (hh : Holds K W H st) (hs : Slots K W H σd σ) (h : Fin K W H EE ((compC c dec test elt 4096 0 >>= fin) st) Q) :
    ∀ Dl, H Dl = none → ∃ Wm : Nat → Nat → Hp → Prop, (∃ m, Wm 0 m (upd H Dl (.lst []))) ∧ ∀ i m H, Wm i m H →
      ((Itl K a).stop i H ∧ Q (.ref Dl) H) ∨ ((Itl K a).go i H ∧ ∃ Nx : Hp → Prop, (∀ H', Nx H' → ∃ m', m' < m ∧ Wm (i + 1) m' H') ∧ ∀ x H', (Itl K a).yld i H x H' → g x (L2.wipe σ vs) H' fun σ2 H2 => L2.wipe σ2 vs = L2.wipe σ vs ∧
        (∃ p, tDT K (up p (wipeD σd vs)) E0' (test p) σ2 H2 fun b H3 =>
          if b = true then (∃ p, tD K (up p (wipeD σd vs)) E0' (elt p) σ2 H3 fun y H4 => ∃ acc, H4 Dl = some (.lst acc) ∧ acc.length < sizeLine ∧ Nx (upd H4 Dl (.lst (acc ++ [y])))) else Nx H3)) := by
  intro Dl hDl
  have nDl : ¬ W.U Dl := hh.fresh hDl
  let Iv : Nat → Hp → Prop := fun i H1 => i ≤ 4096 ∧ ∃ (W1 : Wd) (st1 : Store) (acc : List D) (ws : List V), Ext W W1 H H1 ∧ Holds K W1 H1 st1 ∧ W1.U Dl ∧ Dl ∉ W1.mu ∧ H1 Dl = some (.lst ws) ∧ Reps K W1 H1 ws acc ∧ acc.length ≤ i ∧
      Fin K W H EE ((compC c dec test elt (4096 - i) i >>= fun r => fin (acc ++ r)) st1) Q
  refine ⟨fun i m H1 => m = 4096 - i ∧ Iv i H1, ?_, ?_⟩
  · refine ⟨4096, by omega, Nat.zero_le _, W.with Dl, st, [], [], Ext.with hDl, hh.with hDl, .inr rfl, hh.muDom Dl hDl, upd_same, Reps.nil, Nat.le_refl _, ?_⟩
    exact h
  · rintro i m H1 ⟨rfl, hi, W1, st1, acc, ws, e1, hh1, u1, m1, d1, r1, l1, a1⟩
    have s1 := hs.ext e1
    have hm1 : W1.mu[c]? = some a := by
      obtain ⟨t, q1, _⟩ := e1.mu
      rw [q1, List.getElem?_append_left (List.getElem?_eq_some_iff.mp hm).1]
      exact hm
    cases hfu : 4096 - i with
    | zero =>
      rw [hfu] at a1
      exact a1.elim
    | succ f =>
      rw [hfu] at a1
      unfold compC at a1
      rw [M.bind_assoc] at a1
      rcases rdC_cases c st1 with ⟨xs, q1, q2⟩ | q1
      case inr =>
        rw [bind_stuck q1] at a1
        exact a1.elim
      rw [bind_ok q2] at a1
      obtain ⟨ua, us, ha, hz, rx⟩ := hh1.cell c _ a q1 hm1
      cases hx : xs[i]? with
      | none =>
        refine .inl ⟨⟨us, SqL.of ha, by rw [rx.length]; exact List.getElem?_eq_none_iff.mp hx⟩, ?_⟩
        rw [hx] at a1
        have a2 : Fin K W H EE (fin (acc ++ []) st1) Q := a1
        rw [List.append_nil] at a2
        exact hf.run e1 hDl hh1 u1 m1 d1 (by omega) r1 a2
      | some d0 =>
        refine .inr ?_
        rw [hx] at a1
        dsimp only at a1
        obtain ⟨v0, w1, w2⟩ := rx.get hx
        refine ⟨⟨us, v0, SqL.of ha, w1⟩, fun H' => ∃ m', m' < f + 1 ∧ (m' = 4096 - (i + 1) ∧ Iv (i + 1) H'), fun H' hn => hn, fun x H2 hy => ?_⟩
        obtain ⟨hy1, hy2⟩ := hy
        subst hy1
        have hx0 := hy2 us (SqL.of ha)
        rw [w1] at hx0
        cases hx0
        cases hdec : dec d0 with
        | none => rw [hdec] at a1; exact a1.elim
        | some p =>
          rw [hdec] at a1
          have a2 : Fin K W H EE ((nox (test p) >>= fun b => (if b = true then nox (elt p) >>= fun y => compC c dec test elt f (i + 1) >>= fun r => pure (y :: r) else compC c dec test elt f (i + 1)) >>= fun r => fin (acc ++ r)) st1) Q := by
            rw [← M.bind_assoc]
            exact a1
          refine hg.run W1 H2 st1 _ _ d0 v0 p _ hh1 (s1.wipe vs) w2 hdec fun σ2 hs2 hw => ⟨by rw [hw vs hix, wipe_wipe], p, W1, st1, hh1, hs2, ?_⟩
          have b2 := (After.bind a2).shift e1
          refine (b2.nox (E0' σ2)).mono fun b W3 H3 st3 qt e3 hh3 q3 => ?_
          have e03 : Ext W W3 H H3 := e1.trans e3
          have keepD : ∀ {Wa Wb : Wd} {Ha Hb : Hp} {o : HO}, Dl ∉ Wa.mu → Wa.U Dl → Ha Dl = some o → Ext Wa Wb Ha Hb → Dl ∉ Wb.mu ∧ Wb.U Dl ∧ Hb Dl = some o := fun hm hu hd e => by
            refine ⟨fun z => ?_, e.u0 _ _ hu hm hd, e.keep _ _ (fun _ => hm) hd⟩
            rcases e.memMu z with z | z
            · exact hm z
            · rw [hd] at z; cases z
          obtain ⟨m3, u3, d3⟩ := keepD m1 u1 d1 e3
          have back : ∀ {α β : Type} {mm : M α} {ff : α → M β} {k : β → Wd → Hp → Store → Prop} {a : α} {st2 st3 : Store}, mm st2 = .ok a st3 → After K W H EE ((nox mm >>= ff) st2) k → After K W H EE (ff a st3) k := fun {α β mm ff k a st2 st3} q z => by
            have q' : nox mm st2 = .ok a st3 := by unfold nox; rw [q]
            rw [bind_ok q'] at z; exact z
          have a3 := back qt a2
          have ef : 4096 - (i + 1) = f := by omega
          cases b with
          | true =>
            show ∃ p, tD K (up p (wipeD σd vs)) E0' (elt p) σ2 H3 _
            refine ⟨p, W3, st3, hh3, hs2.ext e3, ?_⟩
            have a4 : Fin K W H EE ((nox (elt p) >>= fun y => compC c dec test elt f (i + 1) >>= fun r => fin ((acc ++ [y]) ++ r)) st3) Q := by
              have e : (nox (elt p) >>= fun y => compC c dec test elt f (i + 1) >>= fun r => fin ((acc ++ [y]) ++ r)) = ((nox (elt p) >>= fun y => compC c dec test elt f (i + 1) >>= fun r => pure (y :: r)) >>= fun r => fin (acc ++ r)) := by
                simp only [M.bind_assoc, M.pure_bind, List.append_assoc, List.singleton_append]
              rw [e]
              exact a3
            refine (((After.bind a4).shift e03).nox (E0' σ2)).mono fun y W4 H4 st4 qy e4 hh4 _ v rv => ?_
            have a5 := back qy a4
            have e04 : Ext W W4 H H4 := e03.trans e4
            obtain ⟨m4, u4, d4⟩ := keepD m3 u3 d3 e4
            have r4 : Reps K W4 H4 ws acc := (r1.ext e3).ext e4
            have hl : ws.length < sizeLine := by rw [r4.length, sizeLine_eq]; omega
            refine ⟨ws, d4, hl, 4096 - (i + 1), by omega, rfl, by omega, W4, st4, acc ++ [y], ws ++ [v], ?_⟩
            have e45 : Ext W W4 H (upd H4 Dl (.lst (ws ++ [v]))) := e04.mine hDl
            refine ⟨e45, hh4.mine u4 m4, u4, m4, upd_same, (r4.append (.cons rv .nil)).upd u4, by rw [List.length_append, List.length_singleton]; omega, ?_⟩
            rw [ef]
            exact a5
          | false =>
            show ∃ m', _
            refine ⟨4096 - (i + 1), by omega, rfl, by omega, W3, st3, acc, ws, e03, hh3, u3, m3, d3, r1.ext e3, by omega, ?_⟩
            rw [ef]
            exact a3
end
/-- which cell -/
def asK : D → M Nat
  | .ref c => rdC c >>= fun _ => pure c
  | _ => M.stuck
section
variable {X : Cx} {E : DL.St → XK} {σd : List Sl} {tg iter elt : Expr} {ifs : List Expr} {scope : Scope} {pos : Pos} {mi : M D} {own : List (Str × Nat)} {P : Type} {dec : D → Option P} {up : P → List Sl → List Sl} {test : P → M Bool} {me : P → M D} {fin : List D → M D} {g : TG} {ix : List Nat}
theorem de_lcC (hf : FinOk X.K fin) (hc : X.calm = true) (hN : X.N.Nodup) (hg : GOk X.K g ix dec up) (hix : ∀ i ∈ ix, i ∈ own.map (·.2)) (hi : DE X E σd iter mi) (ok : BlkOk X.N X.env.scope scope own)
    (hp : ∀ (s : Shared) (H : Hp) (C : Addr) (cl : List (Str × Addr)) (fp : List Addr), PG (X.blk s H scope (compEnvC scope cl C X.env) fp) tg g)
    (ht : ∀ (s : Shared) (H : Hp) (C : Addr) (cl : List (Str × Addr)) (fp : List Addr) (p : P), DTs (X.blk s H scope (compEnvC scope cl C X.env) fp) E0' (up p (wipeD σd (own.map (·.2)))) ifs (test p))
    (he : ∀ (s : Shared) (H : Hp) (C : Addr) (cl : List (Str × Addr)) (fp : List Addr) (p : P), DE (X.blk s H scope (compEnvC scope cl C X.env) fp) E0' (up p (wipeD σd (own.map (·.2)))) elt (me p))
    (hs : ∀ x, foldedSetIterable iter X.env x = pure x) :
    DE X E σd (.ListComp elt [⟨tg, iter, ifs, 0⟩] scope pos) (mi >>= fun x => asK x >>= fun c => compC c dec test me 4096 0 >>= fin) :=
  ⟨pe_imp (pe_lc (own := own) hc hN (pi_list hi.pe) ok hp (fun s H C cl fp => pts_ex fun p => (ht s H C cl fp p).pts) (fun s H C cl fp => pe_ex fun p => (he s H C cl fp p).pe) hs) fun σ H Q ⟨W, st, hh, hs, h⟩ =>
    tD_run hh hs h fun x vx W1 H1 st1 e1 hh1 hs1 r1 h1 => by
      cases x with
      | ref c =>
        have h2 : Fin X.K W1 H1 (E σ) (((rdC c >>= fun _ => pure c) >>= fun c => compC c dec test me 4096 0 >>= fin) st1) Q := h1
        rw [M.bind_assoc] at h2
        rcases rdC_cases c st1 with ⟨xs, q1, q2⟩ | q1
        · rw [bind_ok q2, M.pure_bind] at h2
          obtain ⟨a, rfl, hm⟩ := r1
          obtain ⟨ua, us, ha, hz, rx⟩ := hh1.cell c _ a q1 hm
          exact ⟨a, rfl, ⟨us, SqL.of ha⟩, compC_reads hf hg hix hm hh1 hs1 h2⟩
        · rw [bind_stuck q1] at h2
          exact h2.elim
      | _ => exact h1.elim⟩
end
end DL
set_option maxHeartbeats 4000000
/-! DX1: an own exception whose __init__ says super().__init__(f'.. {x}'); self.f = x, made. -/
namespace DX
open PySem PySem.Spec PySem.Calls PyProof.Rows L2

/-- what the written part says of such a class -/
structure SupC (K : PySem.W.Frag) (prog : Program) (C fI : Addr) (params : Arguments) (body : List Stmt) (scope : Scope) (fd : FuncData) : Prop where
  oex : OexC K C
  init : PySem.W.findIn K (.ref C) "__init__" = some (some (.ref fI))
  fty : PySem.W.typeIn K (.ref fI) = some (.type "function")
  fn : ∃ (qual : Str) (oc : Value) (od : Option Addr) (dV kV doc pm : Value) (an : Option Addr) (cda cc : Addr) (ct : Value) (osl : Array (Option Value)),
    fd = PySem.W.fnX "__init__" qual params body scope [("__class__", cc)] dV kV doc pm an (.ref cda) ct ∧ K.lookup fI = some ⟨oc, od, .func fd, osl⟩ ∧ PySem.W.codeIn K (.ref cda) qual = true ∧
    (∃ (ccl : Value) (cdd : Option Addr) (vs : Array Value) (ccs : Array (Option Value)) (file : Str) (tf : Tok), K.lookup cda = some ⟨ccl, cdd, .fields vs, ccs⟩ ∧ vs[2]? = some (.str file tf) ∧ ((prog.main.file : Str) == file) = true) ∧
    (∃ (cl : Value) (cld : Option Addr) (csl : Array (Option Value)), K.lookup cc = some ⟨cl, cld, .cell (some (.ref C)), csl⟩)
  mro : PySem.W.mroIn K C (.ref C) = some true
  sup : PySem.W.ks_superIn K C C "__init__" = some (some (.builtin "ValueError.__init__"))
  sub : PySem.W.subIn K (.ref C) (.type "ValueError") = some true
  any : PySem.W.nsIn K cStatics "thirdparty.any" = some none
  top : (prog.main.scope.names.lookup ("super" : Str)).isSome = false

/-- the context of such an __init__ -/
def cxI (CX : CXT) (P : Program) (w : World) (K : PySem.W.Frag) (mg : Str → Option Value) (base : Heap) (N : List Str) (env : Env) (A : Around) (outer : List Env) (s : Shared) (H : Hp) (E : XK) : Cx where
  prog := P
  w := w
  K := K
  mg := mg
  base := base
  A := A.deeper env
  N := N
  s_0 := s
  H_0 := H
  env := env
  outer := outer
  stack := env :: outer
  ex := []
  fn := fun _ => false
  calm := true
  pn := []
  xe := fun e s' => wpAny (model P w) (A.deeper env) (leaving env e) (fun _ s'' => CX outer H s E e s'') (fun e' s'' => CX outer H s E e' s'') s'

theorem inv_startI {CX : CXT} {P : Program} {w : World} {K : PySem.W.Frag} {mg : Str → Option Value} {base : Heap} {qual f : Str} {scope : Scope} {fI cc : Addr} {cd : Value} {A : Around} {outer : List Env} {s : Shared} {H : Hp} {E : XK} {u1 u2 : Value} {v1 v2 : V} {h1 : Heap} {tk : Nat} {oc : Obj} {D : Value}
    (hk : scope.kind = .function) (hl1 : scope.names.lookup ("self" : Str) = some .local) (hl2 : scope.names.lookup f = some .local) (hne : f ≠ ("self" : Str))
    (hcell : ∀ x, scope.names.lookup x = some .cell → False) (hfree : ∀ x, scope.names.lookup x = some .free → x = ("__class__" : Str)) (hd : A.handled = none) (e0 : Env0 P w K mg base A outer s H) (r1 : RelV v1 u1) (r2 : RelV v2 u2)
    (hns : h1.Ns s.heap.objs.size (fun x => [(("self" : Str), u1), (f, u2)].reverse.lookup x)) (hkp : ∀ b o, s.heap.get? b = some o → h1.get? b = some o) (hcc : K.lookup cc = some oc) (hcd : oc.data = .cell (some D)) :
    Inv (cxI CX P w K mg base ["self", f] (PySem.W.envX qual scope s.heap.objs.size fI cd [("__class__", cc)]) A outer s H E) [] [some v1, some v2] H { s with heap := h1, toks := tk } := by
  have ccb : base.get? cc = some oc := e0.mod.kin _ _ hcc
  have cch : h1.get? cc = some oc := hkp _ _ (e0.bs _ _ ccb).1
  have lk1 : ∀ x c, ([(("__class__" : Str), cc)] : List (Str × Addr)).lookup x = some c → x = ("__class__" : Str) ∧ c = cc := fun x c h => by
    rw [List.lookup_cons] at h
    by_cases e : (x == ("__class__" : Str)) = true
    · rw [e] at h
      exact ⟨beq_iff_eq.mp e, (Option.some.inj h).symm⟩
    · rw [Bool.not_eq_true] at e
      rw [e] at h
      cases h
  have noA : ∀ b : Addr, b ∉ (cxI CX P w K mg base ["self", f] (PySem.W.envX qual scope s.heap.objs.size fI cd [("__class__", cc)]) A outer s H E).ex := fun b z => absurd (show b ∈ ([] : List Addr) from z) (by simp)
  refine ⟨⟨e0.mod, hk, rfl, rfl, Nat.le_refl _, fun y z c h1 h2 => ?_, fun y hy => ?_, fun y c h _ => ?_, fun _ => hd, Around.frames_deeper e0.frames, .inr ⟨rfl, rfl⟩, fun b z => absurd z (noA b), e0.bs, e0.bsz, fun b _ _ => noA b, fun b z => absurd z (noA b), e0.funs, e0.frf⟩,
    rfl, e0.bare, Un.kept hkp, ⟨_, hns, fun i y v h1 h2 h3 => ?_⟩, fun y c h => ?_, e0.hok.fresh (Nat.le_refl _), fun y c h => ?_, fun p hp => absurd (show p ∈ ([] : List (Addr × Obj)) from hp) (by simp), e0.hok.kept hkp, rfl⟩
  · exact (lk1 y c h1).1.trans (lk1 z c h2).1.symm
  · have hy : scope.names.lookup y = some .cell ∨ scope.names.lookup y = some .free := hy
    rcases hy with hy | hy
    · exact (hcell y hy).elim
    · refine ⟨cc, ?_⟩
      rw [hfree y hy]
      show ([(("__class__" : Str), cc)] : List (Str × Addr)).lookup ("__class__" : Str) = some cc
      simp
  · exact Bool.noConfusion h
  · match i, h1, h2 with
    | 0, h1, h2 =>
      have ey : ("self" : Str) = y := Option.some.inj h1
      have ev : v1 = v := Option.some.inj (Option.some.inj h2)
      subst ey ev
      refine ⟨u1, r1, .inl ⟨hl1, ?_⟩⟩
      show ([(f, u2), (("self" : Str), u1)] : List (Str × Value)).lookup ("self" : Str) = some u1
      rw [List.lookup_cons]
      have e : (("self" : Str) == f) = false := beq_eq_false_iff_ne.mpr (Ne.symm hne)
      rw [e]
      simp
    | 1, h1, h2 =>
      have ey : f = y := Option.some.inj h1
      have ev : v2 = v := Option.some.inj (Option.some.inj h2)
      subst ey ev
      refine ⟨u2, r2, .inl ⟨hl2, ?_⟩⟩
      show ([(f, u2), (("self" : Str), u1)] : List (Str × Value)).lookup f = some u2
      simp
    | i + 2, h1, h2 =>
      have h1' : ([("self" : Str), f] : List Str)[i + 2]? = some y := h1
      simp at h1'
  · obtain ⟨e1, e2⟩ := lk1 y c h
    subst e2
    exact ⟨some D, oc, cch, hcd⟩
  · obtain ⟨e1, e2⟩ := lk1 y c h
    subst e2
    exact (e0.bs _ _ ccb).2

section
variable {X : Cx} {pins : List (Addr × Obj)} {σ : L2.St} {H : Hp} {s : Shared} {C a : Addr}
/-- the bound ValueError.__init__ of an exception that is being made, called -/
theorem call_mw {u : Addr} {us : List Value} {Q : Value → Shared → Prop} {E : Value → Shared → Prop} (T : OexC X.K C) (I : Inv X pins σ H s) (e : H a = some (exo a C none)) (hu : s.heap.get? u = some (PySem.W.kxs_mw "ValueError.__init__" a)) (hl : us.length ≤ sizeLine)
    (h : ∀ s', Inv X pins σ H s' → Q .none s') : wpAny (model X.prog X.w) X.A (call (.ref u) us) Q E s := by
  obtain ⟨nm, q, N, bs, bm, sn, sub, ab, col, dd, k0, k1, k2, k3, k5, hC, hbm⟩ := T.cls
  obtain ⟨t1, ho⟩ := exo_at I.hok e
  have eu : upd H a (exo a C none) = H := by
    funext b
    by_cases hb : b = a
    · rw [hb, upd_same, e]
    · rw [upd_ne hb]
  obtain ⟨hp, g, d, t, os⟩ := s
  refine wpAny_call (codeAny_of_tree ?_)
  show wpAny _ X.A.in1 (callAny (.ref u) ⟨us, []⟩) _ _ _
  simp only [callAny]
  refine wpAny_bind (wpAny_load hu ?_)
  simp only [PySem.W.kxs_mw, show (Value.type "method-wrapper" == Value.type "method" || Value.type "method-wrapper" == Value.type "builtin_function_or_method" || Value.type "method-wrapper" == Value.type "method-wrapper") = true by decide, if_true]
  refine PySem.W.KFB.if_so (by decide) ?_
  refine wpAny_bind (PySem.W.check_bound_init F.excBase_ValueError.toExcCallFacts (I.kIn _ _ hC) ho rfl ?_)
  refine wpAny_bind (wpAny_pure (wpAny_pure ?_))
  refine ⟨plainId_quiet F.excBase_ValueError.init.plain _, codeAny_builtin F.excBase_ValueError.initEntry ?_⟩
  refine PySem.W.exc_init_tree (cls := .ref C) (t0 := t1) (dv := none) (c2 := .none) (c3 := .none) (b4 := .bool false) ho hl fun h' k hx _ => ?_
  have J := I.write (t' := t) (x := a) (e := a) (o := exo a C none) (by rw [e]; exact True.intro) (.inl rfl) k ⟨_, hx⟩ (exo_ok hx)
  rw [eu] at J
  exact h _ J
end
end DX
namespace DX
open PySem PySem.Spec PySem.Calls PyProof.Rows L2
/-- the body: super().__init__(f'pre{f}'); self.f = f -/
abbrev supBody (f pre : Str) (j : Nat) (p0 p1 p2 p3 p4 p5 p6 p7 p8 p9 p10 p11 p12 : Pos) : List Stmt :=
  [.Expr (.Call (.Attribute (.Call (.Name "super" p0) [] [] p1) "__init__" p2) [.JoinedStr [.Constant (.str pre) j p3, .FormattedValue (.Name f p4) (-1) none p5] p6] [] p7) p8,
   .Assign [.Attribute (.Name "self" p9) f p10] (.Name f p11) p12]
/-- its promise -/
def SupSp (C : Addr) (f pre : Str) : Sp := fun vs H Q _ => ∃ (a : Addr) (z : Int), vs = [V.ref a, V.int z] ∧ z.natAbs.log2 < 1920 ∧ (pre ++ toString z : Str).length ≤ sizeLine ∧ H a = some (exo a C none) ∧
  ∀ dx, H dx = none → dx ≠ a → Q .non (upd (upd H dx (exd dx [(f, .int z)])) a (exo a C (some dx)))
section
variable {P : Program} {w : World} {K : PySem.W.Frag} {mg : Str → Option Value} {base : Heap} {CX : CXT} {k j : Nat} {C fI : Addr} {params : Arguments} {scope : Scope} {fd : FuncData} {f pre : Str} {p0 p1 p2 p3 p4 p5 p6 p7 p8 p9 p10 p11 p12 : Pos}
theorem sup_fn {ar : Arg} {pl : Sem Bool} (he : ∀ env : Env, eval (.Call (.Attribute (.Call (.Name "super" p0) [] [] p1) "__init__" p2) [.JoinedStr [.Constant (.str pre) j p3, .FormattedValue (.Name f p4) (-1) none p5] p6] [] p7) env = (do
      let ov ← attributeBase (.Call (.Name "super" p0) [] [] p1) "__init__" env (eval (.Call (.Name "super" p0) [] [] p1) env)
      standAt p2.atName
      let (f', first) ← holding [ov] (getMethod ov "__init__" pl)
      callWith p7 f' first (backTo p7 (starEach [.JoinedStr [.Constant (.str pre) j p3, .FormattedValue (.Name f p4) (-1) none p5] p6] env)) [])) (S : SupC K P C fI params (supBody f pre j p0 p1 p2 p3 p4 p5 p6 p7 p8 p9 p10 p11 p12) scope fd) (hsup : mg "super" = none) (hno : PySem.W.findIn K (.ref C) f = some none)
    (hk : scope.kind = .function) (hco : scope.isCoroutine = false) (hgen : scope.isGenerator = false) (hl1 : scope.names.lookup ("self" : Str) = some .local) (hl2 : scope.names.lookup f = some .local) (hls : scope.names.lookup ("super" : Str) = some .globalImplicit) (hlc : scope.names.lookup ("__class__" : Str) = some .free) (hne : f ≠ ("self" : Str))
    (hcell : ∀ x, scope.names.lookup x = some .cell → False) (hcell2 : ∀ x ∈ scope.names, x.2 ≠ .cell) (hfree : ∀ x, scope.names.lookup x = some .free → x = ("__class__" : Str)) (hp : (params.posonlyargs ++ params.args).head? = some ar) (har : ar.arg = ("self" : Str)) (hdb : (f == ("__debug__" : Str)) = false) (hdc : (f == ("__classdict__" : Str)) = false) :
    FnOk P w K mg base CX (k + 1) fI fd ["self", f] (SupSp C f pre) := by
  refine ⟨fun vs H Q E h => ?_, fun A outer s H args us vs Q E hr e0 hb r hsp => ?_⟩
  · obtain ⟨a, z, e, _⟩ := h
    rw [e]; rfl
  obtain ⟨a, z, ev, hz, hz2, ea, hq⟩ := hsp
  subst ev
  obtain ⟨u1, u2, rfl, r1, r2⟩ := vals2 r
  obtain rfl : u1 = Value.ref a := r1
  obtain ⟨qual, oc, od, dV, kV, doc, pm, an, cda, cc, ct, osl, efd, lk, hcd, ⟨ccl, cdd, cvs, ccs, file, tf, lkc, hvs, hfile⟩, cl, cld, csl, lkcc⟩ := S.fn
  subst efd
  have KX : K.In s.heap := e0.mod.kin.keeps fun b o e => (e0.bs b o e).1
  have lim : s.heap.NoLimit := e0.mod.nolimit.keeps fun b o e => (e0.bs b o e).1
  refine ks_codeAny_call_defAt (fd := PySem.W.fnX "__init__" qual params (supBody f pre j p0 p1 p2 p3 p4 p5 p6 p7 p8 p9 p10 p11 p12) scope [("__class__", cc)] dV kV doc pm an (.ref cda) ct) (body := supBody f pre j p0 p1 p2 p3 p4 p5 p6 p7 p8 p9 p10 p11 p12) (binds := (["self", f] : List Str).zip [Value.ref a, u2])
    hr.depth (KX _ _ lk) rfl lim (PySem.W.codeRec_of KX hcd) rfl hb hcell2 (fun x hx => ?_) (fun h₀ hns hkp => ?_) hco hgen hk
  · have hx' : x ∈ [(("self" : Str), Value.ref a), (f, u2)] := hx
    rcases List.mem_cons.mp hx' with e | hx'
    · rw [e]; exact hl1
    · rw [List.mem_singleton.mp hx']; exact hl2
  obtain ⟨hp0, g, d, t, os⟩ := s
  obtain ⟨nm, q, N, bs, bm, sn, sub, ab, col, dd, k0, k1, k2, k3, k5, hC, hbm⟩ := S.oex.cls
  have I : Inv (cxI CX P w K mg base ["self", f] (PySem.W.envX qual scope hp0.objs.size fI (.ref cda) [("__class__", cc)]) A outer ⟨hp0, g, d, t, os⟩ H E) [] [some (.ref a), some (.int z)] H ⟨h₀, g, d, t + (([(("self" : Str)), f] : List Str).zip [Value.ref a, u2]).length, os⟩ :=
    inv_startI (s := ⟨hp0, g, d, t, os⟩) hk hl1 hl2 hne hcell hfree hr.hd e0 rfl r2 hns hkp lkcc rfl
  generalize htk : t + (([(("self" : Str)), f] : List Str).zip [Value.ref a, u2]).length = t' at I
  show PySem.wpAt (model P w) (A.deeper (PySem.W.envX qual scope hp0.objs.size fI (.ref cda) [("__class__", cc)])) (.func (supBody f pre j p0 p1 p2 p3 p4 p5 p6 p7 p8 p9 p10 p11 p12) (PySem.W.envX qual scope hp0.objs.size fI (.ref cda) [("__class__", cc)]))
    (execs (supBody f pre j p0 p1 p2 p3 p4 p5 p6 p7 p8 p9 p10 p11 p12) (PySem.W.envX qual scope hp0.objs.size fI (.ref cda) [("__class__", cc)])) _ _ ⟨h₀, g, d, t', os⟩
  have hCh := I.kIn _ _ hC
  have hcl : PySem.W.clsIn K C = some { name := nm, bases := bs, mro := .ref C :: bm, ns := N, qualname := q, hasDict := true, slotNames := sn, subclasses := sub, abstract := ab, collection := col, hasDel := false } := by unfold PySem.W.clsIn; rw [hC] <;> rfl
  obtain ⟨t0, ho⟩ := exo_at I.hok ea
  have hCa : a ≠ C := fun z => by
    rw [z] at ho
    have := ho.symm.trans hCh
    cases this
  refine ks_wpAt_execs_cons (ks_wpAt_Expr_any (ks_wpAt_MethodCall (pl := pl) ?_ (he _)) (by simp [interactive, PySem.W.envX, hk]) (by rfl))
  refine ks_wpAt_super_base (env := PySem.W.envX qual scope hp0.objs.size fI (.ref cda) [("__class__", cc)]) hls hlc rfl rfl (I.kIn _ _ lk) rfl hp rfl (I.kIn _ _ lkc) rfl hvs hfile S.top ?_
  obtain ⟨mb, hb1, hb2⟩ := I.mod.blt
  refine PySem.W.ks_loadName_global hk hls (loadGlobal_builtin (env := PySem.W.envX qual scope hp0.objs.size fI (.ref cda) [("__class__", cc)]) (I.mod.glob.keeps I.bk) hsup (hb1.keeps I.bk) ((hb2 "super" (by decide)).trans (by rfl)) ⟨rfl, ?_⟩)
  refine wpAny_loadName_free (c := cc) hk hlc (by show ([(("__class__" : Str), cc)] : List (Str × Addr)).lookup ("__class__" : Str) = some cc; simp) ⟨_, I.kIn _ _ lkcc, rfl⟩ ?_
  rw [har]
  refine wpAny_loadName_local hk hl1 hns (v := .ref a) (by
    show ([(f, u2), (("self" : Str), Value.ref a)] : List (Str × Value)).lookup ("self" : Str) = some (Value.ref a)
    rw [List.lookup_cons]
    have e : (("self" : Str) == f) = false := beq_eq_false_iff_ne.mpr (Ne.symm hne)
    rw [e]
    simp) ?_
  refine ks_wpAny_isType_cls hCh rfl ⟨rfl, ?_⟩
  refine ks_wpAny_call_super hCh rfl ho rfl (fun c e => nomatch e) (PySem.W.looks_mroIn I.kIn S.mro) fun h' e k => ?_
  have I1 := I.kept (t' := t') (h' := h') k
  have J1 : PySem.W.InstAt h' a _ C none := ⟨k _ _ ho, rfl, rfl, trivial⟩
  have hal : PySem.W.alongIn K "__init__" ((((.ref C :: bm) : List Value).dropWhile (· != .ref C)).drop 1) = some (some (.builtin "ValueError.__init__")) := by
    have z := S.sup
    unfold PySem.W.ks_superIn at z
    rw [hcl] at z
    exact z
  refine PySem.W.kxs_getMethod (B := "ValueError") (i := "ValueError.__init__") (K := K) PySem.W.kxs_ValueError e (PySem.W.looks_opaque I1.kIn S.any) (l₀ := .ref C :: bm) (fun A Q E s k q => wpAny_bind ((PySem.W.looks_clsIn I1.kIn hcl) A _ E s k (wpAny_pure q))) rfl I1.kIn hal (J1.type.andThen (PySem.W.looks_subIn I1.kIn S.sub)) hCa rfl ?_
  have I2 := ClX.pin_new (t' := t' + 1) (a := h'.objs.size) (o := PySem.W.kxs_mw "ValueError.__init__" a) (h' := h'.push (PySem.W.kxs_mw "ValueError.__init__" a)) I1 (fun _ _ z => Heap.get?_push_of_some _ z) (Nat.le_refl _) (Heap.get?_push_size _ rfl) (fun v z => nomatch z)
  show wpAny _ _ (callWith p7 (.ref h'.objs.size) [] (backTo p7 (starEach [.JoinedStr [.Constant (.str pre) j p3, .FormattedValue (.Name f p4) (-1) none p5] p6] (PySem.W.envX qual scope hp0.objs.size fI (.ref cda) [("__class__", cc)]))) []) _ _ _
  refine PySem.W.kxs_callWith (x := a) (i := "ValueError.__init__") rfl (evalArgs_plain ?_)
  have pa : PA (cxI CX P w K mg base ["self", f] (PySem.W.envX qual scope hp0.objs.size fI (.ref cda) [("__class__", cc)]) A outer ⟨hp0, g, d, t, os⟩ H E) [.JoinedStr [.Constant (.str pre) j p3, .FormattedValue (.Name f p4) (-1) none p5] p6] _ :=
    pa_cons (pe_joined (PJ.cons pe_str (PJ.cons (pe_fmt (pe_var (i := 1) rfl (.inl hl2) hdb hdc)) PJ.nil))) pa_nil
  refine thn (pa.run p7 _ _ [some (.ref a), some (.int z)] H (fun vs H1 => vs.length = 1 ∧ H1 = H) I2 ?_) fun us s3 ⟨vs, H3, I3, rv, hl, e3⟩ => ⟨ClX.pin_at I3, ?_⟩
  · refine ⟨pre, rfl, ?_, .int z, rfl, .inr ⟨z, rfl, hz, toString z, rfl, ?_, rfl, rfl⟩⟩
    · have h1 : (Str.empty ++ pre : Str).length = pre.length := by
        show (Str.empty.cps ++ pre.cps).size = pre.cps.size
        simp [Str.empty]
      have h2 : (pre ++ Str.ofString (toString z) : Str).length = pre.length + (Str.ofString (toString z)).length := by
        show (pre.cps ++ (Str.ofString (toString z)).cps).size = _
        rw [Array.size_append]; rfl
      rw [h1]
      omega
    · have h1 : (Str.empty ++ pre : Str) = pre := by
        show (⟨Str.empty.cps ++ pre.cps⟩ : Str) = pre
        simp [Str.empty]
      rw [h1]
      exact hz2
  · rw [e3] at I3
    refine call_mw S.oex I3 ea (ClX.pin_at I3) (by show us.length ≤ _; rw [← rv.length, hl, sizeLine_eq]; decide) fun s4 I4 => ?_
    refine wpAt_of_wpAny ?_
    have ps := pss_one (ps_ost (X := cxI CX P w K mg base ["self", f] (PySem.W.envX qual scope hp0.objs.size fI (.ref cda) [("__class__", cc)]) A outer ⟨hp0, g, d, t, os⟩ H E) (p' := p10) (pos := p12) (f := f) (pe_var (pos := p9) (i := 0) rfl (.inl hl1) (by decide) (by decide)) (pe_var (pos := p11) (i := 1) rfl (.inl hl2) hdb hdc))
    refine wpAny_mono (ps.run [] s4 [some (.ref a), some (.int z)] H { nx := fun _ H' => Q .non H', rt := Q } (ClX.unpin I4) ?_) (fun fl s' hs => ?_) fun e s' hs => hs
    · exact ⟨.int z, rfl, .ref a, rfl, a, C, rfl, S.oex, hno, .inl ⟨ea, hq⟩⟩
    · cases fl with
      | ret u =>
        obtain ⟨v, σ', H', J, rv, q⟩ := hs
        exact ⟨v, H', J.os, J.bare, J.base, J.hok, rv, q⟩
      | next =>
        obtain ⟨σ', H', J, q⟩ := hs
        exact ⟨V.non, H', J.os, J.bare, J.base, J.hok, rfl, q⟩
      | brk =>
        obtain ⟨_, _, _, q⟩ := hs
        exact False.elim q
      | cont =>
        obtain ⟨_, _, _, q⟩ := hs
        exact False.elim q
end
end DX
set_option maxHeartbeats 4000000
/-! DX2: raise X(e) of such a class; try: return e except X as n: return n.f. -/
namespace DX
open PySem PySem.Spec PySem.Calls PyProof.Rows L2 DL DH

abbrev CXF : CXT := fun _ _ _ _ _ _ => False
/-- an own error class with one field -/
structure ErrF (P : Program) (w : World) (K : PySem.W.Frag) (mg : Str → Option Value) (base : Heap) (x f : Str) : Prop where
  ex : ∃ (fI : Addr) (fd : FuncData) (pre : Str), OexC K (He.ga K x) ∧ PySem.W.findIn K (.ref (He.ga K x)) "__init__" = some (some (.ref fI)) ∧ PySem.W.typeIn K (.ref fI) = some (.type "function") ∧
    FnOk P w K mg base CXF 1 fI fd ["self", f] (SupSp (He.ga K x) f pre) ∧ Binds K fd ["self", f] [] ∧ pre.length ≤ 1000
  mg : mg x = some (.ref (He.ga K x))
section
variable {X : Cx} {e : Expr} {es : List Expr} {ta : TA} {p pos : Pos}
theorem pmk_oexN {x : Str} {C fI : Addr} {k : Nat} {fd : FuncData} {ps : List Str} {sp : Sp} (T : OexC X.K C) (iC : PySem.W.findIn X.K (.ref C) "__init__" = some (some (.ref fI))) (tI : PySem.W.typeIn X.K (.ref fI) = some (.type "function"))
    (F1 : FnOk X.prog X.w X.K X.mg X.base CXF k fI fd ps sp) (hr : Room (k + 1) X.A) (hb : Binds X.K fd ps []) (hg : Gl X x) (hm : X.mg x = some (.ref C)) (ha : PA X (e :: es) ta)
    (hdb : (x == ("__debug__" : Str)) = false) (he : starEach (e :: es) X.env = (false, eval e X.env) :: starEach es X.env) (hpl : (backTo pos (starEach es X.env)).any (·.1) = false) :
    L2N.PMk X (.Call (.Name x p) (e :: es) [] pos) (tMkO C sp [] ta) := by
  intro pins s σ H Q I h
  obtain ⟨nm, q, N, bs, bm, sn, sub, ab, col, dd, k0, k1, k2, k3, k5, hC, hbm⟩ := T.cls
  refine wpAny_Call_Name_kw (ld_glob I hg hm ?_ hdb)
  refine PySem.W.callWith_K (h₀ := X.base) I.ok.mod.kin T.kC (thn (ha.run pos pins s σ H _ I h) fun us s1 ⟨vs, H1, I1, r1, hz, q1⟩ => ⟨I1.kIn, ?_⟩) he hpl
  show wpAny _ _ (call (.ref C) us) _ _ _
  obtain ⟨hp, g, dr, tk, os⟩ := s1
  have hsz : hp.objs.size ≤ hp.objs.size + 1 := Nat.le_succ _
  have hn : H1 (hp.objs.size + 1) = none := I1.hok.fresh hsz
  have hq := q1 (hp.objs.size + 1) hn
  have kk : ∀ b o, hp.get? b = some o → ((hp.push (PySem.W.kdv_tup us)).push (PySem.HandSPX.excO C hp.objs.size)).get? b = some o := fun b o e => Heap.get?_push_of_some _ (Heap.get?_push_of_some _ e)
  have hget : ((hp.push (PySem.W.kdv_tup us)).push (PySem.HandSPX.excO C hp.objs.size)).get? (hp.objs.size + 1) = some (PySem.HandSPX.excO C hp.objs.size) := by heap_get
  have I2 : Inv X pins σ (upd H1 (hp.objs.size + 1) (exo (hp.objs.size + 1) C none)) ⟨(hp.push (PySem.W.kdv_tup us)).push (PySem.HandSPX.excO C hp.objs.size), g, dr, tk, os⟩ :=
    I1.laid (t' := tk) (a := hp.objs.size + 1) (o := exo (hp.objs.size + 1) C none) (h' := (hp.push (PySem.W.kdv_tup us)).push (PySem.HandSPX.excO C hp.objs.size)) kk hsz (exo_ok hget)
  rw [List.append_nil] at hq
  have r2 : Vals (V.ref (hp.objs.size + 1) :: vs) (Value.ref (hp.objs.size + 1) :: us) := .cons rfl r1
  have hl : (Value.ref (hp.objs.size + 1) :: us).length = ps.length := by
    have e := r2.length
    rw [F1.len _ _ _ _ hq] at e
    exact e.symm
  have hus : us.length ≤ sizeLine := by
    rw [← Paired.length r1, sizeLine_eq]
    omega
  have hbb := hb _ (Value.ref (hp.objs.size + 1) :: us) I2.kIn (by rw [List.append_nil]; exact hl)
  rw [List.append_nil] at hbb
  refine wpAny_call (PySem.HandSPX.call_own F.excBase_ValueError (fun Y => PySem.HandSPX.refsVE_contains Y bm hbm) (I1.kIn _ _ hC) (PySem.W.looks_findIn I1.kIn iC) (fun self => PySem.W.bind_fn I1.kIn self tI) hus
    (codeAny_mono (F1.run _ X.stack _ _ ⟨Value.ref (hp.objs.size + 1) :: us, []⟩ (Value.ref (hp.objs.size + 1) :: us) _ _ (fun _ _ _ => False) (hr.make C us []) (I2.env0.make C us []) hbb r2 hq) fun r s' hq' => ?_))
  cases r with
  | error er => exact hq'.elim
  | ok fl =>
    cases fl with
    | ret u =>
      obtain ⟨v, H2, os2, bare2, un2, hok2, rv, ev, d, fs, ea, ed, hd1, q2⟩ := hq'
      subst ev
      obtain ⟨h2, g2, d2, t2, os'⟩ := s'
      obtain ⟨t0, G, J, kG, ge, hoe, na⟩ := mk_end0 (d2 := d2) (t2 := t2) I1 hsz kk un2 hok2 os2 bare2 ea ed hd1
      exact ⟨rv, hp.objs.size + 1, _, _, ⟨G, g2, d2, t2, os'⟩, _, .ref C, some d, rfl, J, kG, ge, hoe, ⟨rfl, rfl, fun vs e => by cases e; rfl⟩, rfl, rfl, na, rfl, bare2, raises_own T.exC T.tyC, q2⟩
    | next => exact False.elim hq'
    | brk => exact False.elim hq'
    | cont => exact False.elim hq'
end
/-- raise x(d), its field f -/
def throwF {α : Type} (x f : Str) : D → M α
  | .int z => if z.natAbs.log2 < 1900 then M.throw ⟨x, [(f, .int z)]⟩ else M.stuck
  | _ => M.stuck
section
variable {X : Cx} {E : XK} {σd : List Sl} {N T : Type} {eN : N → List Sl} {eT : T → List Sl} {ss : List Stmt} {pos pos' p p2 : Pos} {e : Expr} {me : M D}
theorem db_raiseF {x f : Str} {k : Nat} (hc : X.calm = true) (tk : L2N.Takes X (fun cls d _ H => E cls d H)) (c : ErrF X.prog X.w X.K X.mg X.base x f) (hr : Room k X.A) (hk : 2 ≤ k) (hg : Gl X x) (hdb : (x == ("__debug__" : Str)) = false) (he : DE X (fun _ => E) σd e me)
    (hst : starEach [e] X.env = [(false, eval e X.env)]) :
    DB X E σd (.Raise (some (.Call (.Name x p) [e] [] pos)) none pos' :: ss) eN eT (me >>= throwF x f) := by
  obtain ⟨fI, fd, pre, TT, iC, tI, F1, hb, hpre⟩ := c.ex
  refine ⟨pss_imp (pss_cons (L2N.ps_raise hc tk (pmk_oexN TT iC tI F1 (hr.mono hk) hb hg c.mg (pa_cons he.pe pa_nil hst) hdb hst rfl)) pss_never) fun Dn σ H ⟨W, st, hh, hs, h⟩ => ?_⟩
  refine tD_run (E := fun _ => E) hh hs h fun d v W1 H1 st1 e1 hh1 hs1 r1 h1 => ?_
  cases d with
  | int z =>
    have h2 : After X.K W1 H1 E ((if z.natAbs.log2 < 1900 then M.throw ⟨x, [(f, .int z)]⟩ else M.stuck : M (Fl N T)) st1) (kDB X.K eN eT Dn) := h1
    by_cases hz : z.natAbs.log2 < 1900
    · rw [if_pos hz] at h2
      obtain rfl : v = .int z := r1
      refine ⟨by simp, fun a na => ⟨a, z, rfl, by omega, ?_, upd_same, fun dx ndx hne => ⟨rfl, dx, [(f, .int z)], upd_same, ?_, ?_, ?_⟩⟩⟩
      · have h3 : (pre ++ Str.ofString (toString z) : Str).length = pre.length + (Str.ofString (toString z)).length := by
          show (pre.cps ++ (Str.ofString (toString z)).cps).size = _
          rw [Array.size_append]; rfl
        have h4 : (toString z).length ≤ 1900 + 1 := int_text_length_le (by decide) hz
        have h5 : (Str.ofString (toString z)).length = (toString z).length := PySem.ofString_length _
        rw [h3, h5, sizeLine_eq]
        omega
      · rw [upd_ne hne, upd_same]
      · rw [upd_ne hne] at ndx
        exact ndx
      · have ndx' : H1 dx = none := by rw [upd_ne hne] at ndx; exact ndx
        have eH : upd (del (upd (upd (upd H1 a (exo a (He.ga X.K x) none)) dx (exd dx [(f, .int z)])) a (exo a (He.ga X.K x) (some dx))) a) dx (.xd [(f, .int z)]) = upd H1 dx (.xd [(f, .int z)]) := by
          funext b
          by_cases hb : b = dx
          · rw [hb, upd_same, upd_same]
          · rw [upd_ne hb, upd_ne hb]
            by_cases hba : b = a
            · rw [hba, del_same, na]
            · rw [del_ne hba, upd_ne hba, upd_ne hb, upd_ne hba]
        rw [eH]
        exact h2 W1 _ _ (some dx) (Ext.new1 ndx') (hh1.new1 ndx') ⟨rfl, .inr ⟨by simp, dx, [(f, .int z)], rfl, hh1.fresh ndx', upd_same, ⟨.int z, [], rfl, rfl, rfl⟩⟩⟩
    · rw [if_neg hz] at h2
      exact h2.elim
  | _ => exact h1.elim
end
/-! ### try: return e except x as n: return n.f -/
def catchF (x f : Str) (m : M D) : M D := fun st => match m st with
  | .ok d st' => .ok d st'
  | .exc e st' => if (e.cls == x) = true then (match e.fs.lookup f with | some d => .ok d st' | none => .stuck) else .stuck
  | .stuck => .stuck
theorem fsLook {K : PySem.W.Frag} {W : Wd} {H : Hp} {f : Str} {d : D} : ∀ {fs : List (Str × D)} {vfs : List (Str × V)}, FsOk K W H vfs fs → fs.lookup f = some d → ∃ v, vfs.lookup f = some v ∧ Rep K W H v d
  | [], _, _, q => by cases q
  | (x, d0) :: fs, _, h, q => by
    obtain ⟨v, r, rfl, h1, h2⟩ := h
    rw [List.lookup_cons] at q ⊢
    by_cases e : (f == x) = true
    · rw [e] at q ⊢
      cases q
      exact ⟨v, rfl, h1⟩
    · rw [Bool.not_eq_true] at e
      rw [e] at q ⊢
      exact fsLook h2 q
/-- what an own error class must have that a handler reads its field -/
structure HanC (K : PySem.W.Frag) (mg : Str → Option Value) (x f : Str) : Prop where
  xf : XfC K (He.ga K x)
  no : PySem.W.findIn K (.ref (He.ga K x)) f = some none
  em : PySem.W.exmOne K (.ref (He.ga K x)) (.ref (He.ga K x)) = some true
  mg : mg x = some (.ref (He.ga K x))
section
variable {X : Cx} {E : XK} {σd : List Sl} {N T : Type} {eN : N → List Sl} {eT : T → List Sl} {ss : List Stmt} {pos rp np p1 p2 p3 hp : Pos} {e : Expr} {me : M D} {x n f : Str}
theorem db_tryF (i : Nat) (hs : X.stack = X.env :: X.outer) (hf : X.env.frame = some X.env.locals) (hN : X.N.Nodup) (hi : X.N[i]? = some n) (hln : X.env.kindOf n = some .local) (hg : Gl X x) (hdb : (x == ("__debug__" : Str)) = false) (c : HanC X.K X.mg x f) (tk : L2N.Takes X (fun cls d _ H => E cls d H)) (hil : i < σd.length)
    (hvn : Vis X.env.scope n) (hdn : (n == ("__debug__" : Str)) = false) (hcn : (n == ("__classdict__" : Str)) = false)
    (hb : ∀ (W : WX) (pn : List (Addr × Obj)) (xe : Value → Shared → Prop), L2N.Takes (X.tr pn xe) W → DE (X.tr pn xe) (fun σ => WE W σ) σd e me) :
    DB X E σd (.Try [.Return (some e) rp] [.ExceptHandler (some (.Name x np)) (some n) [.Return (some (.Attribute (.Name n p1) f p2)) p3] hp] [] [] pos :: ss) eN eT (catchF x f me >>= fun d => pure (.ret d)) := by
  let ts : Addr → Value → Option Addr → TS := fun a cl d D τ G => cl = .ref (He.ga X.K x) ∧ τ[i]? = some (some (.ref a)) ∧ ∃ (dd : Addr) (fs : List (Str × V)) (v : V), d = some dd ∧ G dd = some (.xd fs) ∧ fs.lookup f = some v ∧ D.rt v G
  let tb : WX → TS := fun Wx D σ H => tD X.K σd (fun σ => WE Wx σ) me σ H D.rt
  refine ⟨pss_imp (pss_cons (L2N.ps_try_as (X := X) (x := x) (n := n) (c := .ref (He.ga X.K x)) (i := i) (tb := tb) (ts := ts) hs hf hN hi hln ⟨hg, hdb, .inl c.mg⟩ tk (fun Wx pn xe tk _ => ?_) (fun a oe cl d pn hz hvs => ?_)) pss_never) fun Dn σ H ⟨W, st, hh, hsl, h⟩ => ?_⟩
  · exact pss_one (ps_ret (hb Wx pn xe tk).pe)
  · refine ⟨fun pz sz τ G Dn J0 ⟨c1, c2, q⟩ => ?_⟩
    subst c1
    exact (pss_one (ps_ret (pe_xf (C := He.ga X.K x) c.xf c.no hz.zc hvs (pe_var (X := X.suite a ((a, oe) :: pn)) (i := i) hi hvn hdn hcn)))).run pz sz τ G Dn J0 ⟨.ref a, c2, rfl, rfl, q⟩
  · refine ⟨W, st, hh, hsl, ?_⟩
    cases hm : me st with
    | ok d st' =>
      have e1 : catchF x f me st = .ok d st' := by unfold catchF; rw [hm]
      rw [bind_ok e1] at h
      exact fun W' H' e2 hh2 v r => h W' H' e2 hh2 v r
    | exc ee st' =>
      by_cases hcond : (ee.cls == x) = true
      · cases hl : ee.fs.lookup f with
        | none =>
          have e1 : catchF x f me st = .stuck := by unfold catchF; rw [hm]; simp only [hcond, if_true, hl]
          rw [bind_stuck e1] at h
          exact h.elim
        | some d0 =>
          have e1 : catchF x f me st = .ok d0 st' := by unfold catchF; rw [hm]; simp only [hcond, if_true, hl]
          rw [bind_ok e1] at h
          intro W' H' C dd e2 hh2 hx
          have ec : ee.cls = x := beq_iff_eq.mp hcond
          have eC : C = .ref (He.ga X.K x) := by rw [hx.1, ec]
          subst eC
          refine ⟨true, c.em, fun _ a _ => ⟨rfl, List.getElem?_set_self (by rw [hsl.len]; exact hil), ?_⟩, fun z => nomatch z⟩
          rcases hx.2 with z | ⟨_, a', vfs, ed, _, ha', hfs⟩
          · rw [z.1] at hl; cases hl
          · obtain ⟨v, q1, q2⟩ := fsLook hfs hl
            exact ⟨a', vfs, v, ed, ha', q1, h W' H' e2 hh2 v q2⟩
      · have e1 : catchF x f me st = .stuck := by unfold catchF; rw [hm]; exact if_neg hcond
        rw [bind_stuck e1] at h
        exact h.elim
    | stuck =>
      have e1 : catchF x f me st = .stuck := by unfold catchF; rw [hm]
      rw [bind_stuck e1] at h
      exact h.elim
end
end DX
set_option maxHeartbeats 4000000
/-! DX3: the head's facts for methods, properties, classmethods, own __init__s of errors. -/
namespace DX
open PySem PySem.Spec PySem.Calls PyProof.Rows L2 DL DH

/-! ### a def at an address that the fragment tells -/
structure DefX where
  ad : PySem.W.Frag → Addr
  name : Str
  qual : Str
  params : Arguments
  body : List Stmt
  scope : Scope
  free : List Str
abbrev FnV : Type := Option (Str × Str × Arguments × FuncBody × Scope × Addr × List Str × Addr)
def fnV (K : PySem.W.Frag) (a : Addr) : FnV := match K.lookup a with
  | some ⟨_, _, .func fd, _⟩ => some (fd.name, fd.qualname, fd.params, fd.body, fd.scope, fd.globals, fd.closure.map (·.1), fd.builtins)
  | _ => none
def DefX.val (d : DefX) : FnV := some (d.name, d.qual, d.params, .stmts d.body, d.scope, mainGlobals, d.free, builtinsNs)
def fnOkB (K : PySem.W.Frag) (a : Addr) (q : Str) : Bool := PySem.W.keepIn K (.ref a) && (match K.lookup a with
  | some ⟨_, _, .func fd, _⟩ => PySem.W.codeIn K fd.code q && He.dflB K fd.defaults []
  | _ => false)
theorem funD_of {K : PySem.W.Frag} {d : DefX} (e : fnV K (d.ad K) = d.val) (hf : d.free = []) (c : fnOkB K (d.ad K) d.qual = true) : ∃ fd, FunD K d.name d.qual d.params d.body d.scope [] [] (d.ad K) fd := by
  obtain ⟨kp, c2⟩ := band c
  unfold fnV at e
  unfold DefX.val at e
  rw [hf] at e
  cases q : K.lookup (d.ad K) with
  | none =>
    rw [q] at c2
    cases c2
  | some o =>
    obtain ⟨oc, od, dt, osl⟩ := o
    rw [q] at c2 e
    cases dt with
    | func fd =>
      obtain ⟨n1, n2, n3, n4, n5, n6, n7, n8, n9, n10, n11, n12, n13, n14, n15⟩ := fd
      have e2 : (some (n1, n2, n3, n4, n5, n6, n7.map (·.1), n15) : FnV) = some (d.name, d.qual, d.params, .stmts d.body, d.scope, mainGlobals, [], builtinsNs) := e
      simp only [Option.some.injEq, Prod.mk.injEq, List.map_eq_nil_iff] at e2
      obtain ⟨h1, h2, h3, h4, h5, h6, h7, h8⟩ := e2
      subst h1 h2 h3 h4 h5 h6 h7 h8
      obtain ⟨k1, k3⟩ := band (show (PySem.W.codeIn K n13 d.qual && He.dflB K n8 []) = true from c2)
      exact ⟨_, ⟨oc, od, n8, n9, n10, n11, n12, n13, n14, osl, rfl, q, k1, He.dflB_ok k3, .inl rfl⟩, kp⟩
    | _ => cases c2

/-! ### the hook -/
abbrev AlY : Type := He.AlX × List FnV
/-- the fragment: what is reached, and the statics -/
def KY (g : Addr → Option Obj) (n : Nat) : PySem.W.Frag := He.frT g (cStatics :: He.asD g n)
section
variable (n : Nat) (fa : List He.Fa) (fn : List He.DefD) (ts : List He.Tab) (tf : List He.Defn) (ex : PySem.W.Frag → Bool) (xs : List DefX)
def obsY (g : Addr → Option Obj) : AlY := ((He.obsT fa fn ts (KY g n), ex (KY g n) && He.tabsB g tf (KY g n)), xs.map fun d => fnV (KY g n) (d.ad (KY g n)))
def valY (w : World) : AlY := (He.valX fn ts w, xs.map DefX.val)
structure SaysY (w : World) (h : Heap) (K : PySem.W.Frag) : Prop where
  x : He.SaysX fa fn ts tf ex w h K
  y : xs.map (fun d => fnV K (d.ad K)) = xs.map DefX.val
theorem saysY_of {w : World} {h : Heap} (e : obsY n fa fn ts tf ex xs h.get? = valY fn ts xs w) : SaysY fa fn ts tf ex xs w h (KY h.get? n) := by
  have e1 : He.obsT fa fn ts (KY h.get? n) = He.valT fn ts w := congrArg (fun z : AlY => z.1.1) e
  have e2 : (ex (KY h.get? n) && He.tabsB h.get? tf (KY h.get? n)) = true := congrArg (fun z : AlY => z.1.2) e
  obtain ⟨h1, h2⟩ := band e2
  have key : ∀ p ∈ tf, PySem.W.codeHdIn (KY h.get? n) (He.cT (KY h.get? n) p).1 (He.cT (KY h.get? n) p).2 = true ∧ ∃ o, h.get? (He.cT (KY h.get? n) p).2 = some o ∧ He.emptyTab o = true := fun p hp => by
    obtain ⟨h3, h4⟩ := band (List.all_eq_true.mp h2 p hp)
    refine ⟨h3, ?_⟩
    cases q : h.get? (He.cT (KY h.get? n) p).2 with
    | none =>
      rw [q] at h4
      cases h4
    | some o =>
      rw [q] at h4
      exact ⟨o, rfl, h4⟩
  exact ⟨⟨e1, h1, fun p hp => (key p hp).1, fun p hp => by
    obtain ⟨_, o, q, z⟩ := key p hp
    exact He.frT_none q z, fun p hp => by
    obtain ⟨_, o, q, z⟩ := key p hp
    rw [q, He.emptyTab_eq z]⟩, congrArg (fun z : AlY => z.2) e⟩
def hookY : PySem.W.Hook where
  α := AlY
  obs := fun s => obsY n fa fn ts tf ex xs s.heap.get?
  val := fun w => valY fn ts xs w
  says := fun w h => ∃ K : PySem.W.Frag, K.In h ∧ SaysY fa fn ts tf ex xs w h K
  of := fun _ _ e => ⟨_, He.frT_in, saysY_of n fa fn ts tf ex xs e⟩
  keeps := fun _ _ _ ⟨K, hK, c⟩ k => ⟨K, PySem.W.Frag.In.keeps hK k, ⟨⟨c.x.t, c.x.more, c.x.hd, c.x.out, fun p hp => k _ _ (c.x.empty p hp)⟩, c.y⟩⟩
end
theorem obsY_eq {n : Nat} {fa : List He.Fa} {fn : List He.DefD} {ts : List He.Tab} {tf : List He.Defn} {ex : PySem.W.Frag → Bool} {xs : List DefX} {g : Addr → Option Obj} {s : Shared} (h : ∀ a, g a = s.heap.get? a) : obsY n fa fn ts tf ex xs g = (hookY n fa fn ts tf ex xs).obs s := by
  have e : g = s.heap.get? := funext h
  rw [e] <;> rfl
theorem SaysY.def_ {fa : List He.Fa} {fn : List He.DefD} {ts : List He.Tab} {tf : List He.Defn} {ex : PySem.W.Frag → Bool} {xs : List DefX} {w : World} {h : Heap} {K : PySem.W.Frag} (c : SaysY fa fn ts tf ex xs w h K) {d : DefX} (hd : d ∈ xs) : fnV K (d.ad K) = d.val := by
  obtain ⟨i, hi, e⟩ := List.mem_iff_getElem.mp hd
  have e1 := congrArg (fun l : List FnV => l[i]?) c.y
  simp only [List.getElem?_map, List.getElem?_eq_getElem hi, Option.map_some, e] at e1
  exact Option.some.inj e1

/-! ### an error class that hands on by super() -/
def oexB (K : PySem.W.Frag) (C : Addr) : Bool := (match K.lookup C with
  | some ⟨.type "type", _, .cls cd, sl⟩ => (match cd.mro, sl.toList with
    | .ref C' :: bm, [_, _, _, _, some (.builtin n), _] => C' == C && (n == "ValueError.__new__" && (!cd.hasDel && (cd.hasDict && PySem.HandSPX.refsVE bm)))
    | _, _ => false)
  | _ => false) && (He.eqO (PySem.W.findIn K (.ref C) "__setattr__") (some (some (.builtin "object.__setattr__"))) && (decide (PySem.W.subIn K (.ref C) (.type "BaseException") = some true) && (decide (PySem.W.typeIn K (.ref C) = some (.type "type")) && PySem.W.keepIn K (.ref C))))
theorem oexB_ok {K : PySem.W.Frag} {C : Addr} (h : oexB K C = true) : OexC K C := by
  obtain ⟨q, h⟩ := band h
  obtain ⟨h2, h⟩ := band h
  obtain ⟨h3, h⟩ := band h
  obtain ⟨h4, h5⟩ := band h
  refine ⟨?_, He.eqO_ok h2, of_decide_eq_true h3, of_decide_eq_true h4, h5⟩
  split at q
  · rename_i dd cd sl ho
    split at q
    · rename_i C' bm k0 k1 k2 k3 n k5 hm hs
      simp only [Bool.and_eq_true, beq_iff_eq, Bool.not_eq_true'] at q
      obtain ⟨rfl, rfl, hdel, hdct, ht⟩ := q
      obtain ⟨nm, bs, mro, ns, qn, hd, sn, sub, ab, col, del⟩ := cd
      dsimp only at hm hdel hdct
      subst hm hdel hdct
      have hsl : sl = #[k0, k1, k2, k3, some (.builtin "ValueError.__new__"), k5] := by
        obtain ⟨l⟩ := sl
        simp only at hs
        rw [hs]
      subst hsl
      exact ⟨nm, qn, ns, bs, bm, sn, sub, ab, col, dd, k0, k1, k2, k3, k5, ho, ht⟩
    · cases q
  · cases q
/-- the def of C's __init__ -/
abbrev iniA (K : PySem.W.Frag) (C : Addr) : Addr := He.ma K C "__init__"
def supB (file : Str) (K : PySem.W.Frag) (C : Addr) : Bool := oexB K C && (He.eqO (PySem.W.findIn K (.ref C) "__init__") (some (some (.ref (iniA K C)))) && (decide (PySem.W.typeIn K (.ref (iniA K C)) = some (.type "function")) &&
  ((match K.lookup (iniA K C) with
    | some ⟨_, _, .func fd, _⟩ => (match fd.code, fd.closure with
      | .ref cda, [(_, cc)] => PySem.W.codeIn K (.ref cda) fd.qualname && ((match K.lookup cda with
        | some ⟨_, _, .fields vs, _⟩ => (match (vs[2]? : Option Value) with
          | some (.str f _) => decide (f = file)
          | _ => false)
        | _ => false) && ((match K.lookup cc with
        | some ⟨_, _, .cell (some (.ref D)), _⟩ => D == C
        | _ => false) && He.dflB K fd.defaults []))
      | _, _ => false)
    | _ => false) && (decide (PySem.W.mroIn K C (.ref C) = some true) && (He.eqO (PySem.W.ks_superIn K C C "__init__") (some (some (.builtin "ValueError.__init__"))) && (decide (PySem.W.subIn K (.ref C) (.type "ValueError") = some true) &&
      (He.eqO (PySem.W.nsIn K cStatics "thirdparty.any") (some none) && PySem.W.keepIn K (.ref (iniA K C)))))))))
theorem supB_ok {K : PySem.W.Frag} {prog : Program} {C : Addr} {d : DefX} (h : supB prog.main.file K C = true) (e : fnV K (iniA K C) = d.val) (hn : d.name = ("__init__" : Str)) (hf : d.free = [("__class__" : Str)]) (ht : (prog.main.scope.names.lookup ("super" : Str)).isSome = false) :
    ∃ fd, SupC K prog C (iniA K C) d.params d.body d.scope fd ∧ PySem.W.keepIn K (.ref (iniA K C)) = true ∧ DflV K fd.defaults [] ∧ (∃ (cc : Addr) (dV kV doc pm : Value) (an : Option Addr) (cdv ct : Value), fd = PySem.W.fnX "__init__" d.qual d.params d.body d.scope [("__class__", cc)] dV kV doc pm an cdv ct) := by
  obtain ⟨h1, h⟩ := band h
  obtain ⟨h2, h⟩ := band h
  obtain ⟨h3, h⟩ := band h
  obtain ⟨h4, h⟩ := band h
  obtain ⟨h5, h⟩ := band h
  obtain ⟨h6, h⟩ := band h
  obtain ⟨h7, h⟩ := band h
  obtain ⟨h8, h9⟩ := band h
  unfold fnV DefX.val at e
  rw [hf, hn] at e
  cases q : K.lookup (iniA K C) with
  | none => rw [q] at h4; cases h4
  | some o =>
    obtain ⟨oc, od, dt, osl⟩ := o
    rw [q] at h4 e
    cases dt with
    | func fd =>
      obtain ⟨n1, n2, n3, n4, n5, n6, n7, n8, n9, n10, n11, n12, n13, n14, n15⟩ := fd
      have e2 : (some (n1, n2, n3, n4, n5, n6, n7.map (·.1), n15) : FnV) = some (("__init__" : Str), d.qual, d.params, .stmts d.body, d.scope, mainGlobals, [("__class__" : Str)], builtinsNs) := e
      simp only [Option.some.injEq, Prod.mk.injEq] at e2
      obtain ⟨g1, g2, g3, g4, g5, g6, g7, g8⟩ := e2
      subst g1 g2 g3 g4 g5 g6 g8
      cases n13 with
      | ref cda =>
        match n7, g7, h4, q with
        | [(nm, cc)], g7, h4, q =>
          have g7' : nm = ("__class__" : Str) := by
            have z : [nm] = [("__class__" : Str)] := g7
            exact (List.cons.inj z).1
          subst g7'
          obtain ⟨k1, h4⟩ := band h4
          obtain ⟨k2, h4⟩ := band h4
          obtain ⟨k3, k4⟩ := band h4
          refine ⟨_, ⟨oexB_ok h1, He.eqO_ok h2, of_decide_eq_true h3, ⟨d.qual, oc, od, n8, n9, n10, n11, n12, cda, cc, n14, osl, rfl, q, k1, ?_, ?_⟩, of_decide_eq_true h5, He.eqO_ok h6, of_decide_eq_true h7, He.eqO_ok h8, ht⟩, h9, He.dflB_ok k4, ⟨cc, n8, n9, n10, n11, n12, _, n14, rfl⟩⟩
          · split at k2
            · rename_i a1 a2 vs a3 hl
              split at k2
              · rename_i f tk hv
                exact ⟨a1, a2, vs, a3, f, tk, hl, hv, by rw [of_decide_eq_true k2]; simp⟩
              · cases k2
            · cases k2
          · split at k3
            · rename_i a1 a2 D a3 hl
              exact ⟨a1, a2, a3, by rw [hl, beq_iff_eq.mp k3]⟩
            · cases k3
        | [], g7, h4, q => cases h4
        | _ :: _ :: _, g7, h4, q => exact absurd (congrArg List.length g7) (by simp)
      | _ => cases h4
    | _ => cases h4
end DX
set_option maxHeartbeats 4000000
/-! DX4: instances of own classes. -/
namespace DX
open PySem PySem.Spec PySem.Calls PyProof.Rows L2 DL DH

/-- a class's j-th member -/
def mem (s : Stmt) (j : Nat) : Stmt := match s with
  | .ClassDef _ _ _ b _ _ _ _ _ _ _ => b.getD j (.Pass ⟨0, 0, 0, 0⟩)
  | s => s
def SpR (K : PySem.W.Frag) (mf : List D → M D) : Sp := fun vs H Q E => ∃ (W : Wd) (st : Store) (ds : List D), Holds K W H st ∧ Reps K W H vs ds ∧ Fin K W H E (mf ds st) Q
section
variable {P : Program} {w : World} {K : PySem.W.Frag} {mg : Str → Option Value} {base : Heap} {x qual : Str} {params : Arguments} {body : List Stmt} {scope : Scope} {kws : List (Str × V)} {f : Addr} {fd : FuncData} {N ps : List Str} {k : Nat} {mf : List D → M D}
theorem fnR_of {CX : CXT} {sp : Sp} (F : FnOk P w K mg base CX k f fd ps sp) (hb : Binds K fd ps []) : FnR P w K mg base CX k f sp := fun A outer s H us vs Q E hr e0 r h => by
  have KX : K.In s.heap := e0.mod.kin.keeps fun b o e => (e0.bs b o e).1
  have b := hb s us KX (by rw [List.append_nil, ← r.length]; exact F.len _ _ _ _ h)
  rw [List.append_nil] at b
  exact F.run A outer s H ⟨us, []⟩ us vs Q E hr e0 b r h
/-- a method's promise by its body -/
theorem fnOk_body {T : Type} {eN : T → List Sl} {mB : List D → M (Fl T Empty)} (F : FunD K x qual params body scope [] kws f fd) (S : FnScope N ps scope)
    (hbody : ∀ (cdv : Value) (A : Around) (outer : List Env) (s : Shared) (H : Hp) (E : XK) (ds : List D), ds.length = ps.length → Room k (A.deeper (envOfC qual scope s.heap.objs.size f cdv)) →
      DB (cxOf (L2N.CX P w) P w K mg base N qual scope f cdv A outer s H E) E (startD N ds) body eN eE (mB ds)) : FnOk P w K mg base (L2N.CX P w) (k + 1) f fd ps (SpD K ps.length fun ds => mB ds >>= retM) := by
  refine F.ok S (fun vs H Q E h => h.1) (fun cdv A outer s H vs Q E hr h => ?_)
  obtain ⟨hl, W, st, ds, hh, r, h⟩ := h
  refine ⟨_, (hbody cdv A outer s H E ds (r.length.symm.trans hl) hr).pss, W, st, hh, Slots.start r, ?_⟩
  refine (After.bind h).mono fun fl W1 H1 st1 _ e1 hh1 h1 => ?_
  cases fl with
  | next s => exact fun σ' _ => After.pure' h1 hh1 _ rfl
  | ret d => exact fun v r => After.pure' h1 hh1 v r
  | brk t => exact t.elim
  | cnt t => exact t.elim
theorem fnR_body {T : Type} {eN : T → List Sl} {mB : List D → M (Fl T Empty)} (F : FunD K x qual params body scope [] kws f fd) (S : FnScope N ps scope)
    (hb : ∀ (kV doc pm : Value) (an : Option Addr) (cdv ct : Value) (us : List Value), us.length = ps.length → bindArgs (PySem.W.fnOf x qual params body scope .none kV doc pm an cdv ct) ⟨us, []⟩ = pure (ps.zip us))
    (hbody : ∀ (cdv : Value) (A : Around) (outer : List Env) (s : Shared) (H : Hp) (E : XK) (ds : List D), ds.length = ps.length → Room k (A.deeper (envOfC qual scope s.heap.objs.size f cdv)) →
      DB (cxOf (L2N.CX P w) P w K mg base N qual scope f cdv A outer s H E) E (startD N ds) body eN eE (mB ds))
    (h1 : ∀ ds st, ds.length ≠ ps.length → mf ds st = .stuck) (h2 : ∀ ds, ds.length = ps.length → mf ds = mB ds >>= retM) : FnR P w K mg base (L2N.CX P w) (k + 1) f (SpR K mf) :=
  (fnR_of (fnOk_body F S hbody) (F.bindsN hb)).imp fun vs H Q E ⟨W, st, ds, hh, r, h⟩ => by
    by_cases hl : ds.length = ps.length
    · refine ⟨r.length.trans hl, W, st, ds, hh, r, ?_⟩
      show Fin K W H E ((mB ds >>= retM) st) Q
      rw [← h2 ds hl]
      exact h
    · have h' : Fin K W H E (mf ds st) Q := h
      rw [h1 ds st hl] at h'
      exact h'.elim
/-- def m(self, *v) -/
def mkS (g : D → D → M D) : List D → M D
  | a :: r => mkTup r >>= fun t => g a t
  | [] => M.stuck
theorem fnR_star {T : Type} {eN : T → List Sl} {mB : D → D → M (Fl T Empty)} {p1 pv : Str} (F : FunD K x qual params body scope [] kws f fd) (S : FnScope N [p1, pv] scope)
    (hb0 : ∀ (kV doc pm : Value) (an : Option Addr) (cdv ct : Value) (a : Value), bindArgs (PySem.W.fnOf x qual params body scope .none kV doc pm an cdv ct) ⟨[a], []⟩ = (newTuple [] >>= fun t => pure [(p1, a), (pv, t)]))
    (hb1 : ∀ (kV doc pm : Value) (an : Option Addr) (cdv ct : Value) (a r : Value) (rs : List Value), bindArgs (PySem.W.fnOf x qual params body scope .none kV doc pm an cdv ct) ⟨a :: r :: rs, []⟩ = (newTuple (r :: rs) >>= fun t => pure [(p1, a), (pv, t)]))
    (hbody : ∀ (cdv : Value) (A : Around) (outer : List Env) (s : Shared) (H : Hp) (E : XK) (d1 d2 : D), Room k (A.deeper (envOfC qual scope s.heap.objs.size f cdv)) →
      DB (cxOf (L2N.CX P w) P w K mg base N qual scope f cdv A outer s H E) E (startD N [d1, d2]) body eN eE (mB d1 d2)) : FnR P w K mg base (L2N.CX P w) (k + 1) f (SpR K (mkS fun a t => mB a t >>= retM)) := by
  obtain ⟨oc, od, dV, kV, doc, pm, an, cdv, ct, osl, rfl, lk, hcd, hD, _⟩ := F.ex
  have hD' : dV = .none := by
    rcases hD with ⟨_, rfl⟩ | ⟨e, _⟩
    · rfl
    · exact absurd rfl e
  subst hD'
  have up : StX.CXUp (L2N.CX P w) := by
    rintro outer s H s2 H2 E e s' un kp ho ⟨a, B, H', cls, d, ea, fl, hok, ub, na, os, ag, he⟩
    refine ⟨a, B, H', cls, d, ea, fl, hok, ⟨fun b o q n hb => ub.keep b o (kp b o q) (un.free b o q n (by simp)) hb, fun b o q hb => ub.slot b o (kp b o q) hb, fun b o q n => ub.free b o (kp b o q) (un.free b o q n (by simp)),
      fun b o q hb => ub.there b o (kp b o q) hb, fun b xs q => ub.tups b xs (un.tups b xs q), fun b o xs q => ub.frzs b o xs (un.frzs b o xs q), fun b ps q => ?_⟩, na, os.trans ho, ag, he⟩
    obtain ⟨m1, e1⟩ := un.tbls b ps q
    obtain ⟨m2, e2⟩ := ub.tbls b _ e1
    exact ⟨m1 ++ m2, by rw [e2, Array.append_assoc]⟩
  have Z := StX.fn_star (mg := mg) (base := base) (P := P) (w := w) (k := k) (CX := L2N.CX P w) (N := N) (ps := [p1]) (pv := pv) (sp := SpR K fun ds => match ds with | [a, t] => mB a t >>= retM | _ => M.stuck) lk hcd S up
    (StX.bind_star1 (B := fun l => bindArgs (PySem.W.fnOf x qual params body scope .none kV doc pm an cdv ct) ⟨l, []⟩) (p1 := p1) (pv := pv) (hb0 kV doc pm an cdv ct) (hb1 kV doc pm an cdv ct)) (fun A outer s H vs Q E hr h => by
      obtain ⟨W, st, ds, hh, r, h⟩ := h
      match ds, r, h with
      | [d1, d2], r, h =>
        refine ⟨_, (hbody cdv A outer s H E d1 d2 hr).pss, W, st, hh, Slots.start r, ?_⟩
        have h' : Fin K W H E ((mB d1 d2 >>= retM) st) Q := h
        refine (After.bind h').mono fun fl W1 H1 st1 _ e1 hh1 h1 => ?_
        cases fl with
        | next s => exact fun σ' _ => After.pure' h1 hh1 _ rfl
        | ret d => exact fun v r => After.pure' h1 hh1 v r
        | brk t => exact t.elim
        | cnt t => exact t.elim
      | [], r, h => exact h.elim
      | [_], r, h => exact h.elim
      | _ :: _ :: _ :: _, r, h => exact h.elim)
  refine Z.imp fun vs H Q E ⟨W, st, ds, hh, r, h⟩ => ?_
  cases ds with
  | nil => exact h.elim
  | cons d ds =>
    obtain ⟨v, vr, rfl, r1, r2⟩ := r
    have h' : Fin K W H E ((mkTup ds >>= fun t => mB d t >>= retM) st) Q := h
    by_cases hz : ds.length ≤ 16777216
    · have e1 : mkTup ds st = .ok (.tup ds) st := by unfold mkTup; rw [if_pos hz]; rfl
      rw [bind_ok e1] at h'
      refine ⟨[v], vr, rfl, rfl, by rw [r2.length, sizeLine_eq]; exact hz, fun p hp => ?_⟩
      exact ⟨W, st, [d, .tup ds], hh.new1 hp, ⟨v, _, rfl, r1.ext (Ext.new1 hp), .ref p, [], rfl, Rep.newT hh hp r2 hz, rfl⟩, h'.shift (Ext.new1 hp)⟩
    · have e1 : mkTup ds st = .stuck := by unfold mkTup; rw [if_neg hz]; rfl
      rw [bind_stuck e1] at h'
      exact h'.elim
end
/-- a method -/
structure MetD (P : Program) (w : World) (K : PySem.W.Frag) (mg : Str → Option Value) (base : Heap) (k : Nat) (C m : Str) (mf : List D → M D) : Prop where
  ex : ∃ g, Meth K (He.ga K C) m g ∧ FnR P w K mg base (L2N.CX P w) k g (SpR K mf)
/-- the maker -/
structure MakD (P : Program) (w : World) (K : PySem.W.Frag) (mg : Str → Option Value) (base : Heap) (k : Nat) (C : Str) (mf : List D → M D) : Prop where
  ex : ∃ g, Mk K (He.ga K C) g ∧ FnR P w K mg base (L2N.CX P w) k g (SpR K mf)
  mg : mg C = some (.ref (He.ga K C))
/-- a classmethod -/
structure CMtD (P : Program) (w : World) (K : PySem.W.Frag) (mg : Str → Option Value) (base : Heap) (k : Nat) (C m : Str) (mf : List D → M D) : Prop where
  ex : ∃ p g mc, ClX.CRead K (He.ga K C) mc ∧ ClX.CMet K (He.ga K C) mc m p g ∧ FnR P w K mg base (L2N.CX P w) k g (SpR K mf)
  mg : mg C = some (.ref (He.ga K C))
/-- a property -/
structure PrpD (P : Program) (w : World) (K : PySem.W.Frag) (mg : Str → Option Value) (base : Heap) (k : Nat) (C f : Str) (mf : D → M D) : Prop where
  ex : ∃ p g fd ps, PropOf K (He.ga K C) f p g ∧ FnOk P w K mg base (L2N.CX P w) k g fd ps (SpD K 1 (mk1 mf)) ∧ Binds K fd ps []
section
variable {X : Cx} {pins : List (Addr × Obj)} {σ : L2.St} {H : Hp} {s : Shared}
theorem run_fnRS {CX : CXT} {k : Nat} {f : Addr} {sp : Sp} {E : XK} {Q : VK} {us : List Value} {vs : List V} (F : FnR X.prog X.w X.K X.mg X.base CX k f sp) (hr : Room k X.A) (hx : PassesAt CX X σ E) (I : Inv X pins σ H s) (r : Vals vs us) (h : sp vs H Q E) :
    codeAny (model X.prog X.w) X.A (.call (.ref f) ⟨us, []⟩) (fun r s' => match r with | .ok (.ret v) => EP X pins σ Q v s' | .ok _ => False | .error e => X.xe e s') s := by
  refine codeAny_mono (F X.A X.stack s H us vs Q E hr I.env0 r h) fun r s' hq => ?_
  cases r with
  | error e => exact hx pins H s e s' I hq
  | ok fl =>
    cases fl with
    | ret u => exact I.after hq
    | next => exact False.elim hq
    | brk => exact False.elim hq
    | cont => exact False.elim hq
theorem run_makeRS {CX : CXT} {k : Nat} {f C : Addr} {sp : Sp} {E : XK} {Q : VK} {us : List Value} {vs : List V} (M : Mk X.K C f) (F : FnR X.prog X.w X.K X.mg X.base CX k f sp) (hr : Room (k + 1) X.A) (hx : PassesAt CX X σ E) (I : Inv X pins σ H s) (r : Vals vs us)
    (h : ∀ x dx, H x = Option.none → H dx = Option.none → dx ≠ x → sp (V.ref x :: vs) (upd (upd H dx (.own x)) x (.ins C dx [])) (fun v H2 => v = .non ∧ Q (.ref x) H2) E) :
    wpAny (model X.prog X.w) X.A (call (.ref C) us) (EP X pins σ Q) X.xe s := by
  have hq := h (s.heap.objs.size + 1) s.heap.objs.size (I.hok.fresh (Nat.le_succ _)) (I.hok.fresh (Nat.le_refl _)) (Nat.ne_of_lt (Nat.lt_succ_self _))
  have I2 := Inv.made (C := C) I
  have r2 : Vals (V.ref (s.heap.objs.size + 1) :: vs) (Value.ref (s.heap.objs.size + 1) :: us) := .cons rfl r
  refine wpAny_call (make_map (f := f) I.kIn M.makes M.init (beq_iff_eq.mp M.fn) (codeAny_mono (F _ X.stack _ _ (Value.ref (s.heap.objs.size + 1) :: us) _ _ E (hr.make C us []) (I2.env0.make C us []) r2 hq) fun r s' hq' => ?_))
  cases r with
  | error e => exact hx pins _ _ e s' I2 hq'
  | ok fl =>
    cases fl with
    | ret u =>
      obtain ⟨v, H', I3, rv, ev, q3⟩ := I2.after hq'
      subst ev
      exact ⟨rv, ⟨V.ref (s.heap.objs.size + 1), H', I3, rfl, q3⟩⟩
    | next => exact False.elim hq'
    | brk => exact False.elim hq'
    | cont => exact False.elim hq'
end
/-! ### the store's instances -/
def rdI (C : Str) (i : Nat) : M (List (Str × D)) := fun st => match st[i]? with
  | some (.ins C' fs) => if (C' == C) = true then .ok fs st else .stuck
  | _ => .stuck
theorem rdI_cases (C : Str) (i : Nat) (st : Store) : (∃ fs, st[i]? = some (.ins C fs) ∧ rdI C i st = .ok fs st) ∨ rdI C i st = .stuck := by
  unfold rdI
  cases e : st[i]? with
  | none => exact .inr rfl
  | some c =>
    cases c with
    | ins C' fs =>
      by_cases h : (C' == C) = true
      · have e2 := beq_iff_eq.mp h
        subst e2
        exact .inl ⟨fs, rfl, if_pos h⟩
      · exact .inr (if_neg h)
    | _ => exact .inr rfl
/-- an instance of C, its fields -/
def insM (C : Str) : D → M (List (Str × D))
  | .ref i => rdI C i
  | _ => M.stuck
section
variable {K : PySem.W.Frag} {W : Wd} {H : Hp} {st : Store} {d : D} {v : V} {C : Str} {β : Type} {f : List (Str × D) → M β} {k : β → Wd → Hp → Store → Prop} {E : XK}
theorem insM_run (hh : Holds K W H st) (r : Rep K W H v d) (h : After K W H E ((insM C d >>= f) st) k) :
    ∃ (i : Nat) (a dx : Addr) (fs : List (Str × D)) (vfs : List (Str × V)), d = .ref i ∧ v = .ref a ∧ st[i]? = some (.ins C fs) ∧ W.mu[i]? = some a ∧ W.U a ∧ H a = some (.ins (He.ga K C) dx vfs) ∧ FsOk K W H vfs fs ∧ After K W H E (f fs st) k := by
  cases d with
  | ref i =>
    rcases rdI_cases C i st with ⟨fs, h1, h2⟩ | h2
    · have h2' : insM C (.ref i) st = .ok fs st := h2
      rw [bind_ok h2'] at h
      obtain ⟨a, rfl, ha⟩ := r
      obtain ⟨u, dx, vfs, e1, e2⟩ := hh.cell i _ a h1 ha
      exact ⟨i, a, dx, fs, vfs, rfl, rfl, h1, ha, u, e1, e2, h⟩
    · have h2' : insM C (.ref i) st = .stuck := h2
      rw [bind_stuck h2'] at h
      exact h.elim
  | _ => exact h.elim
theorem fsNone {f : Str} : ∀ {fs : List (Str × D)} {vfs : List (Str × V)}, FsOk K W H vfs fs → fs.lookup f = none → vfs.lookup f = none
  | [], _, h, _ => by
    have h' : _ = [] := h
    rw [h']; rfl
  | (x, d0) :: fs, _, h, q => by
    obtain ⟨v, r, rfl, h1, h2⟩ := h
    rw [List.lookup_cons] at q ⊢
    by_cases e : (f == x) = true
    · rw [e] at q
      cases q
    · rw [Bool.not_eq_true] at e
      rw [e] at q ⊢
      exact fsNone h2 q
theorem fsLen : ∀ {fs : List (Str × D)} {vfs : List (Str × V)}, FsOk K W H vfs fs → vfs.length = fs.length
  | [], _, h => by
    have h' : _ = [] := h
    rw [h']; rfl
  | (x, d0) :: fs, _, h => by
    obtain ⟨v, r, rfl, h1, h2⟩ := h
    rw [List.length_cons, List.length_cons, fsLen h2]
end
def putD (f : Str) (v : D) : List (Str × D) → List (Str × D)
  | [] => [(f, v)]
  | (g, x) :: r => if g = f then (g, v) :: r else (g, x) :: putD f v r
theorem fsPut {K : PySem.W.Frag} {W : Wd} {H : Hp} {f : Str} {d : D} {v : V} (r : Rep K W H v d) : ∀ {fs : List (Str × D)} {vfs : List (Str × V)}, FsOk K W H vfs fs → FsOk K W H (putF f v vfs) (putD f d fs)
  | [], _, h => by
    have h' : _ = [] := h
    rw [h']
    exact ⟨v, [], rfl, r, rfl⟩
  | (x, d0) :: fs, _, h => by
    obtain ⟨v0, r0, rfl, h1, h2⟩ := h
    unfold putF putD
    by_cases e : x = f
    · rw [if_pos e, if_pos e]
      exact ⟨v, _, rfl, r, h2⟩
    · rw [if_neg e, if_neg e]
      exact ⟨v0, _, rfl, h1, fsPut r h2⟩
/-! ### e.f, e.f = v -/
def dFld (C f : Str) (d : D) : M D := insM C d >>= fun fs => ofO (fs.lookup f)
structure ClsF (K : PySem.W.Frag) (C f : Str) : Prop where
  cls : Cls K (He.ga K C)
  no : NoAttr K (He.ga K C) f
section
variable {X : Cx} {E : DL.St → XK} {σd : List Sl} {e o : Expr} {es : List Expr} {me mo : M D} {pos p apos : Pos} {C f m : Str}
theorem de_fld (c : ClsF X.K C f) (he : DE X E σd e me) (hb : attributeBase e f X.env (eval e X.env) = eval e X.env) : DE X E σd (.Attribute e f pos) (me >>= dFld C f) :=
  ⟨pe_imp (pe_fld he.pe hb) fun σ H Q ⟨W, st, hh, hs, h⟩ => tD_run hh hs h fun d v W1 H1 st1 e1 hh1 hs1 r1 h1 => by
    have h1' : Fin X.K W1 H1 (E σ) ((insM C d >>= fun fs => ofO (fs.lookup f) >>= fun d => pure d) st1) Q := by
      show Fin X.K W1 H1 (E σ) ((insM C d >>= fun fs => ofO (fs.lookup f) >>= Pure.pure) st1) Q
      simp only [M.bind_pure]
      exact h1
    obtain ⟨i, a, dx, fs, vfs, rfl, rfl, q1, q2, u, ea, hfs, h2⟩ := insM_run hh1 r1 h1'
    obtain ⟨d', hl, h3⟩ := ofO_run h2
    obtain ⟨v', hv, rv⟩ := fsLook hfs hl
    exact ⟨a, _, dx, vfs, v', rfl, ea, c.cls, c.no, hv, Fin.ret h3 hh1 rv⟩⟩
def setI (C f : Str) (x v : D) : M Unit := match x with
  | .ref i => rdI C i >>= fun fs => if fs.length < 1000 then wrC i (.ins C (putD f v fs)) else M.stuck
  | _ => M.stuck
theorem db_setF {E : XK} {N T : Type} {eN : N → List Sl} {eT : T → List Sl} {ss : List Stmt} {mr : M (Fl N T)} {p' : Pos} (c : ClsF X.K C f) (he : DE X (fun _ => E) σd e me) (ho : DE X (fun _ => E) σd o mo) (hs : swapsWith e (some (.Attribute o f p')) pos.line X.env = pure false)
    (hr : DB X E σd ss eN eT mr) : DB X E σd (.Assign [.Attribute o f p'] e pos :: ss) eN eT (me >>= fun v => mo >>= fun x => setI C f x v >>= fun _ => mr) :=
  ⟨pss_imp (pss_cons (ps_fld ho.pe he.pe hs) hr.pss) fun Dn σ H ⟨W, st, hh, hsl, h⟩ => by
    refine ⟨W, st, hh, hsl, (After.stmt hsl hh h).mono fun d W1 H1 st1 _ _ _ ⟨e1, hh1, hs1, h1⟩ v r => ?_⟩
    refine ⟨W1, st1, hh1, hs1, (After.stmt hs1 hh1 h1).mono fun x W2 H2 st2 _ _ _ ⟨e2, hh2, hs2, h2⟩ ov rx => ?_⟩
    have h2' : After X.K W2 H2 E ((setI C f x d >>= fun _ => mr) st2) (kDB X.K eN eT Dn) := h2
    cases x with
    | ref i =>
      have h3 : After X.K W2 H2 E ((insM C (.ref i) >>= fun fs => (if fs.length < 1000 then wrC i (.ins C (putD f d fs)) else M.stuck) >>= fun _ => mr) st2) (kDB X.K eN eT Dn) := by
        rw [← M.bind_assoc]
        exact h2'
      obtain ⟨i', a, dx, fs, vfs, ei, rfl, q1, q2, u, ea, hfs, h4⟩ := insM_run hh2 rx h3
      cases ei
      by_cases hl : fs.length < 1000
      · rw [if_pos hl] at h4
        have h5 : After X.K W2 H2 E (mr (st2.set i (.ins C (putD f d fs)))) (kDB X.K eN eT Dn) := h4
        refine ⟨a, _, dx, vfs, rfl, ea, c.cls, c.no, by rw [fsLen hfs]; exact hl, ?_⟩
        have rv2 : Rep X.K W2 H2 v d := r.ext e2
        have x1 : Ext W2 W2 H2 (upd H2 a (.ins (He.ga X.K C) dx (putF f v vfs))) := Ext.wr u (List.mem_of_getElem? q2) ea
        exact ⟨W2, _, hh2.wr (c := .ins C (putD f d fs)) u q2 ea ⟨u, dx, _, upd_same, FsOk.upd u (fsPut rv2 hfs)⟩, hs2.ext x1, h5.shift x1⟩
      · rw [if_neg hl] at h4
        exact h4.elim
    | _ => exact h2'.elim⟩
end
end DX
set_option maxHeartbeats 4000000
/-! DX5: methods, makers, classmethods, properties called. -/
namespace DX
open PySem PySem.Spec PySem.Calls PyProof.Rows L2 DL DH

/-- an instance of C that has no field m -/
def recv (C m : Str) (d : D) : M Unit := insM C d >>= fun fs => if (fs.lookup m).isNone = true then pure () else M.stuck
theorem recv_run {K : PySem.W.Frag} {W : Wd} {H : Hp} {st : Store} {d : D} {v : V} {C m : Str} {β : Type} {f : Unit → M β} {k : β → Wd → Hp → Store → Prop} {E : XK} (hh : Holds K W H st) (r : Rep K W H v d) (h : After K W H E ((recv C m d >>= f) st) k) :
    ∃ (a dx : Addr) (vfs : List (Str × V)), v = .ref a ∧ H a = some (.ins (He.ga K C) dx vfs) ∧ vfs.lookup m = none ∧ After K W H E (f () st) k := by
  have h' : After K W H E ((insM C d >>= fun fs => (if (fs.lookup m).isNone = true then pure () else M.stuck) >>= f) st) k := by
    rw [← M.bind_assoc]; exact h
  obtain ⟨i, a, dx, fs, vfs, rfl, rfl, q1, q2, u, ea, hfs, h2⟩ := insM_run hh r h'
  by_cases hn : (fs.lookup m).isNone = true
  · rw [if_pos hn] at h2
    exact ⟨a, dx, vfs, rfl, ea, fsNone hfs (Option.isNone_iff_eq_none.mp hn), h2⟩
  · rw [if_neg hn] at h2
    exact h2.elim
section
variable {X : Cx} {E : DL.St → XK} {σd : List Sl} {e o : Expr} {es : List Expr} {mo : M D} {ma : M (List D)} {pos p apos : Pos} {C m : Str} {mf : List D → M D} {j k : Nat}
/-- o.m(e, ..) -/
theorem de_meth {pl : Sem Bool} (c : Cls X.K (He.ga X.K C)) (F : MetD X.prog X.w X.K X.mg X.base j C m mf) (hr : Room k X.A) (hj : j ≤ k) (hx : ∀ σ, PassesAt (L2N.CX X.prog X.w) X σ (E σ)) (ho : DE X E σd o mo) (ha : DA X E σd (e :: es) ma)
    (hst : starEach (e :: es) X.env = (false, eval e X.env) :: starEach es X.env) (hpl : (backTo pos (starEach es X.env)).any (·.1) = false)
    (ht : eval (.Call (.Attribute o m apos) (e :: es) [] pos) X.env = (do
      let ov ← eval o X.env
      standAt apos.atName
      let (f, first) ← holding [ov] (getMethod ov m pl)
      callWith pos f first (backTo pos (starEach (e :: es) X.env)) (backToKw pos (keywordEach [] X.env)))) :
    DE X E σd (.Call (.Attribute o m apos) (e :: es) [] pos) (mo >>= fun x => recv C m x >>= fun _ => ma >>= fun ds => mf (x :: ds)) := by
  obtain ⟨g, hm, F⟩ := F.ex
  refine ⟨⟨fun pins s σ H Q I ⟨W, st, hh, hs, h⟩ => ?_⟩⟩
  refine PySem.W.methodCall_KW (pl := pl) (thn (ho.pe.run pins s σ H _ I (tD_run hh hs h fun d v W1 H1 st1 e1 hh1 hs1 r1 h1 => (⟨d, W1, st1, hh1, hs1, r1, h1⟩ : ∃ (d : D) (W1 : Wd) (st1 : Store), Holds X.K W1 H1 st1 ∧ Slots X.K W1 H1 σd σ ∧ Rep X.K W1 H1 v d ∧ After X.K W1 H1 (E σ) ((recv C m d >>= fun _ => ma >>= fun ds => mf (d :: ds)) st1) (fun d W' H' _ => ∀ v, Rep X.K W' H' v d → Q v H')))) fun u s1 ⟨x, H1, I1, rx, d, W1, st1, hh1, hs1, r1, h1⟩ => ?_) ht
  obtain ⟨a, dx, vfs, rfl, ea, l, h2⟩ := recv_run hh1 r1 h1
  obtain rfl : u = Value.ref a := rx
  refine getmeth_ok I1 ea c hm l ?_
  refine PySem.W.callWith_K (first := [.ref a]) (h₀ := X.base) I.ok.mod.kin hm.kp (thn (ha.pa.run pos pins s1 σ H1 (fun vs H2 => SpR X.K mf (V.ref a :: vs) H2 Q (E σ)) I1 ⟨W1, st1, hh1, hs1, (After.next hs1 hh1 h2).mono fun ds W2 H2 st2 _ _ _ ⟨e2, hh2, hs2, h3⟩ vs rv => ?_⟩) fun us s2 ⟨vs, H2, I2, r, q2⟩ => ⟨I2.kIn, ?_⟩) hst hpl
  · exact ⟨W2, st2, d :: ds, hh2, .cons (r1.ext e2) rv, h3⟩
  · exact wpAny_call (run_fnRS (us := .ref a :: us) (vs := .ref a :: vs) F (hr.mono hj) (hx σ) I2 (.cons rfl r) q2)
/-- o.m() -/
theorem de_meth0 {pl : Sem Bool} (c : Cls X.K (He.ga X.K C)) (F : MetD X.prog X.w X.K X.mg X.base j C m mf) (hr : Room k X.A) (hj : j ≤ k) (hx : ∀ σ, PassesAt (L2N.CX X.prog X.w) X σ (E σ)) (ho : DE X E σd o mo)
    (ht : eval (.Call (.Attribute o m apos) [] [] pos) X.env = (do
      let ov ← eval o X.env
      standAt apos.atName
      let (f, first) ← holding [ov] (getMethod ov m pl)
      callWith pos f first (backTo pos (starEach [] X.env)) (backToKw pos (keywordEach [] X.env)))) :
    DE X E σd (.Call (.Attribute o m apos) [] [] pos) (mo >>= fun x => recv C m x >>= fun _ => mf [x]) := by
  obtain ⟨g, hm, F⟩ := F.ex
  refine ⟨⟨fun pins s σ H Q I ⟨W, st, hh, hs, h⟩ => ?_⟩⟩
  refine PySem.W.methodCall_KW (pl := pl) (thn (ho.pe.run pins s σ H _ I (tD_run hh hs h fun d v W1 H1 st1 e1 hh1 hs1 r1 h1 => (⟨d, W1, st1, hh1, hs1, r1, h1⟩ : ∃ (d : D) (W1 : Wd) (st1 : Store), Holds X.K W1 H1 st1 ∧ Slots X.K W1 H1 σd σ ∧ Rep X.K W1 H1 v d ∧ After X.K W1 H1 (E σ) ((recv C m d >>= fun _ => mf [d]) st1) (fun d W' H' _ => ∀ v, Rep X.K W' H' v d → Q v H')))) fun u s1 ⟨x, H1, I1, rx, d, W1, st1, hh1, hs1, r1, h1⟩ => ?_) ht
  obtain ⟨a, dx, vfs, rfl, ea, l, h2⟩ := recv_run hh1 r1 h1
  obtain rfl : u = Value.ref a := rx
  refine getmeth_ok I1 ea c hm l ?_
  exact PySem.W.callWith_K0 (first := [.ref a]) I1.kIn hm.kp (wpAny_call (run_fnRS (us := [.ref a]) (vs := [.ref a]) F (hr.mono hj) (hx σ) I1 (.cons rfl .nil) ⟨W1, st1, [d], hh1, .cons r1 .nil, h2⟩))
end
/-! ### C(..) -/
def newI (C : Str) : M D := fun st => .ok (.ref st.length) (st ++ [.ins C []])
def isNon : D → M Unit
  | .non => pure ()
  | _ => M.stuck
def makeM (C : Str) (mf : List D → M D) (ds : List D) : M D := newI C >>= fun r => mf (r :: ds) >>= isNon >>= fun _ => pure r
theorem make_run {K : PySem.W.Frag} {W : Wd} {H : Hp} {st : Store} {E : XK} {Q : VK} {C : Str} {mf : List D → M D} {ds : List D} {vs : List V} {x dx : Addr} (hh : Holds K W H st) (r : Reps K W H vs ds) (hx : H x = none) (hd : H dx = none) (hne : dx ≠ x)
    (h : Fin K W H E (makeM C mf ds st) Q) : SpR K mf (V.ref x :: vs) (upd (upd H dx (.own x)) x (.ins (He.ga K C) dx [])) (fun v H2 => v = .non ∧ Q (.ref x) H2) E := by
  have e1 : Ext W W H (upd H dx (.own x)) := Ext.new1 hd
  have hh1 : Holds K W (upd H dx (.own x)) st := hh.new1 hd
  have hx1 : upd H dx (.own x) x = none := by rw [upd_ne (Ne.symm hne)]; exact hx
  have e2 : Ext W ((W.with x).cell x) (upd H dx (.own x)) (upd (upd H dx (.own x)) x (.ins (He.ga K C) dx [])) := (Ext.with (o := .ins (He.ga K C) dx []) hx1).cell hx1
  have hh2 : Holds K ((W.with x).cell x) (upd (upd H dx (.own x)) x (.ins (He.ga K C) dx [])) (st ++ [.ins C []]) :=
    (hh1.with (o := .ins (He.ga K C) dx []) hx1).cell' (.inr rfl) (fun m => hh1.muDom x hx1 m) ⟨.inr rfl, dx, [], upd_same, rfl⟩
  have e3 := e1.trans e2
  have rx : Rep K ((W.with x).cell x) (upd (upd H dx (.own x)) x (.ins (He.ga K C) dx [])) (V.ref x) (.ref st.length) := ⟨x, rfl, by
    show (W.mu ++ [x])[st.length]? = some x
    rw [List.getElem?_append_right (by rw [hh.len]; exact Nat.le_refl _), hh.len, Nat.sub_self]
    rfl⟩
  refine ⟨_, _, .ref st.length :: ds, hh2, .cons rx (Reps.ext e3 _ _ r), ?_⟩
  have h1 : Fin K W H E ((mf (.ref st.length :: ds) >>= fun y => isNon y >>= fun _ => pure (.ref st.length)) (st ++ [.ins C []])) Q := by
    have z : Fin K W H E ((mf (.ref st.length :: ds) >>= isNon >>= fun _ => pure (.ref st.length)) (st ++ [.ins C []])) Q := h
    rw [M.bind_assoc] at z
    exact z
  refine (After.bind (h1.shift e3)).mono fun y W3 H3 st3 _ e4 hh3 q v rv => ?_
  cases y with
  | non => exact ⟨rv, Fin.ret q hh3 (rx.ext e4)⟩
  | _ => exact q.elim
section
variable {X : Cx} {E : DL.St → XK} {σd : List Sl} {e o : Expr} {es : List Expr} {mo me : M D} {ma : M (List D)} {pos p p2 apos : Pos} {C m x : Str} {mf : List D → M D} {j k i : Nat} {d : D}
/-- C(e, ..) -/
theorem de_make (F : MakD X.prog X.w X.K X.mg X.base j C mf) (hr : Room k X.A) (hj : j + 1 ≤ k) (hg : Gl X C) (hx : ∀ σ, PassesAt (L2N.CX X.prog X.w) X σ (E σ)) (ha : DA X E σd (e :: es) ma) (hdb : (C == ("__debug__" : Str)) = false)
    (he : starEach (e :: es) X.env = (false, eval e X.env) :: starEach es X.env) (hpl : (backTo pos (starEach es X.env)).any (·.1) = false) : DE X E σd (.Call (.Name C p) (e :: es) [] pos) (ma >>= makeM C mf) := by
  obtain ⟨g, MM, G⟩ := F.ex
  refine ⟨⟨fun pins s σ H Q I ⟨W, st, hh, hs, h⟩ => ?_⟩⟩
  refine wpAny_Call_Name_kw (ld_glob I hg F.mg ?_ hdb)
  refine PySem.W.callWith_K (h₀ := X.base) I.ok.mod.kin MM.kp (thn (ha.pa.run pos pins s σ H (fun vs H1 => ∀ x dx, H1 x = Option.none → H1 dx = Option.none → dx ≠ x → SpR X.K mf (V.ref x :: vs) (upd (upd H1 dx (.own x)) x (.ins (He.ga X.K C) dx [])) (fun v H2 => v = .non ∧ Q (.ref x) H2) (E σ)) I ⟨W, st, hh, hs, (After.next hs hh h).mono fun ds W1 H1 st1 _ _ _ ⟨e1, hh1, hs2, h1⟩ vs r1 => fun x dx n1 n2 n3 => make_run hh1 r1 n1 n2 n3 h1⟩) fun us s1 ⟨vs, H1, I1, r, q⟩ => ⟨I1.kIn, ?_⟩) he hpl
  exact run_makeRS MM G (hr.mono hj) (hx σ) I1 r q
/-- x(*y), x a local name that holds the class C -/
def isCls (C : Str) : D → M Unit
  | .fn x => if (x == C) = true then pure () else M.stuck
  | _ => M.stuck
def asT : D → M (List D)
  | .tup ds => pure ds
  | _ => M.stuck
theorem de_makeS (F : MakD X.prog X.w X.K X.mg X.base j C mf) (hr : Room k X.A) (hj : j + 1 ≤ k) (hx : ∀ σ, PassesAt (L2N.CX X.prog X.w) X σ (E σ)) (hi : σd[i]? = some (.val d)) (hN : X.N[i]? = some x) (hv : Vis X.env.scope x) (hdb : (x == ("__debug__" : Str)) = false) (hcd : (x == ("__classdict__" : Str)) = false) (he : DE X E σd e me)
    (hst : starEach [.Starred e p2] X.env = [(true, eval e X.env)]) : DE X E σd (.Call (.Name x p) [.Starred e p2] [] pos) (isCls C d >>= fun _ => me >>= asT >>= makeM C mf) := by
  obtain ⟨g, MM, G⟩ := F.ex
  refine ⟨⟨fun pins s σ H Q I ⟨W, st, hh, hs, h⟩ => ?_⟩⟩
  cases d with
  | fn y =>
    have h' : Fin X.K W H (E σ) (((if (y == C) = true then pure () else M.stuck) >>= fun _ => me >>= asT >>= makeM C mf) st) Q := h
    by_cases hy : (y == C) = true
    · rw [if_pos hy] at h'
      have ey := beq_iff_eq.mp hy
      subst ey
      have h2 : Fin X.K W H (E σ) ((me >>= fun z => asT z >>= makeM y mf) st) Q := by
        have z : Fin X.K W H (E σ) ((me >>= asT >>= makeM y mf) st) Q := h'
        rw [M.bind_assoc] at z
        exact z
      obtain ⟨v, q1, q2⟩ := hs.val i _ hi
      have q2' : v = .ref (He.ga X.K y) := q2
      subst q2'
      refine wpAny_Call_Name_kw (thn ((pe_var (pos := p) hN hv hdb hcd).run pins s σ H (fun v H1 => v = .ref (He.ga X.K y) ∧ H1 = H) I ⟨_, q1, rfl, rfl⟩) fun u s1 ⟨v, H1, I1, r1, ev, eH⟩ => ?_)
      subst ev
      rw [eH] at I1
      obtain rfl : u = Value.ref (He.ga X.K y) := r1
      refine PySem.W.callWith_S (h₀ := X.base) I.ok.mod.kin MM.kp (thn (he.pe.run pins s1 σ H (fun y1 H1 => ∃ a xs, y1 = V.ref a ∧ (SqT X.K H1 a xs ∨ SqL X.K H1 a xs) ∧ ∀ x dx, H1 x = Option.none → H1 dx = Option.none → dx ≠ x → SpR X.K mf (V.ref x :: xs) (upd (upd H1 dx (.own x)) x (.ins (He.ga X.K y) dx [])) (fun v H2 => v = .non ∧ Q (.ref x) H2) (E σ)) I1 ?_) fun v s2 ⟨y1, H1, I2, ry, a, xs, ey, hxs, q⟩ => ?_) hst
      · refine tD_run hh hs h2 fun d v W1 H1 st1 e1 hh1 hs1 r1 h1 => ?_
        cases d with
        | tup ds =>
          obtain ⟨a, vs, rfl, ha, rr⟩ := Rep.tupSq r1
          exact ⟨a, vs, rfl, .inl ha, fun x dx n1 n2 n3 => make_run hh1 rr n1 n2 n3 h1⟩
        | _ => exact h1.elim
      · subst ey
        obtain rfl : v = Value.ref a := ry
        exact StX.star_any I2 hxs fun us s3 I3 rv => ⟨I3.kIn, run_makeRS MM G (hr.mono hj) (hx σ) I3 rv q⟩
    · rw [if_neg hy] at h'
      exact h'.elim
  | _ => exact h.elim
/-- C.m(e, ..), a classmethod -/
theorem de_cmeth {pl : Sem Bool} (F : CMtD X.prog X.w X.K X.mg X.base j C m mf) (hr : Room k X.A) (hj : j ≤ k) (hg : Gl X C) (hx : ∀ σ, PassesAt (L2N.CX X.prog X.w) X σ (E σ)) (ha : DA X E σd (e :: es) ma) (hdb : (C == ("__debug__" : Str)) = false)
    (hst : starEach (e :: es) X.env = (false, eval e X.env) :: starEach es X.env) (hpl : (backTo pos (starEach es X.env)).any (·.1) = false)
    (ht : eval (.Call (.Attribute (.Name C p) m apos) (e :: es) [] pos) X.env = (do
      let ov ← eval (.Name C p) X.env
      standAt apos.atName
      let (f, first) ← holding [ov] (getMethod ov m pl)
      callWith pos f first (backTo pos (starEach (e :: es) X.env)) (backToKw pos (keywordEach [] X.env)))) :
    DE X E σd (.Call (.Attribute (.Name C p) m apos) (e :: es) [] pos) (ma >>= fun ds => mf (.fn C :: ds)) := by
  obtain ⟨pp, g, mc, R, c, G⟩ := F.ex
  refine ⟨⟨fun pins s σ H Q I ⟨W, st, hh, hs, h⟩ => ?_⟩⟩
  refine PySem.W.methodCall_KW (pl := pl) (ld_glob I hg F.mg ?_ hdb) ht
  refine ClX.getmethcm_ok I R c fun s2 I2 => ?_
  refine ClX.callwith_cm I2 (ClX.base_none I (Nat.le_refl _)) c.fi (thn (ha.pa.run pos _ s2 σ H (fun vs H1 => SpR X.K mf (V.ref (He.ga X.K C) :: vs) H1 Q (E σ)) I2 ⟨W, st, hh, hs, (After.next hs hh h).mono fun ds W1 H1 st1 _ _ _ ⟨e1, hh1, hs2, h1⟩ vs r1 => ⟨W1, st1, .fn C :: ds, hh1, .cons rfl r1, h1⟩⟩) fun us s3 ⟨vs, H2, I3, rv, q2⟩ => ⟨⟨ClX.pin_at I3, I3.kIn⟩, ?_⟩) hst hpl
  have z := wpAny_call (PySem.W.method_call (ClX.pin_at I3) (run_fnRS (us := .ref (He.ga X.K C) :: us) (vs := .ref (He.ga X.K C) :: vs) G (hr.mono hj) (fun pins H s e s' I c => hx σ pins H s e s' I c) I3 (.cons rfl rv) q2))
  exact thn z fun _ _ y => ClX.unpinE y
/-- o.f, a property -/
theorem de_prop {f : Str} {mf : D → M D} (c : Cls X.K (He.ga X.K C)) (F : PrpD X.prog X.w X.K X.mg X.base j C f mf) (hr : Room k X.A) (hj : j + 1 ≤ k) (ho : DE X E σd o mo) (hb : attributeBase o f X.env (eval o X.env) = eval o X.env) :
    DE X E σd (.Attribute o f pos) (mo >>= fun x => insM C x >>= fun _ => nox (mf x)) := by
  obtain ⟨pp, g, fd, ps, hp, G, hbd⟩ := F.ex
  refine ⟨pe_imp (pe_prop (E := fun _ _ _ => False) ho.pe c hp G (hr.mono hj) hbd .nil (fun pins σ H s e s' I c => ?_) hb) fun σ H Q ⟨W, st, hh, hs, h⟩ => tD_run hh hs h fun d v W1 H1 st1 e1 hh1 hs1 r1 h1 => ?_⟩
  · obtain ⟨_, _, _, _, _, _, _, _, _, _, _, _, z⟩ := c
    exact z.elim
  · obtain ⟨i, a, dx, fs, vfs, rfl, rfl, q1, q2, u, ea, hfs, h2⟩ := insM_run hh1 r1 h1
    exact ⟨a, dx, vfs, rfl, ea, rfl, W1, st1, [.ref i], hh1, .cons r1 .nil, by
      have z : After X.K W1 H1 (E σ) ((nox (nox (mf (.ref i)))) st1) (fun d W' H' _ => ∀ v, Rep X.K W' H' v d → Q v H') := by
        have nn : nox (nox (mf (.ref i))) = nox (mf (.ref i)) := by
          funext st3
          unfold nox
          cases mf (.ref i) st3 <;> rfl
        rw [nn]
        exact h2
      have z2 := After.nox h2 (fun _ _ _ => False)
      exact z2⟩
end
end DX
set_option maxHeartbeats 4000000
/-! DX6: the head's Bools for classes. -/
namespace DX
open PySem PySem.Spec PySem.Calls PyProof.Rows L2 DL DH

def prA (K : PySem.W.Frag) (C : Addr) (f : Str) : Addr := match PySem.W.recIn K (He.ma K C f) "property" with
  | some (.ref g :: _) => g
  | _ => 0
def propB (K : PySem.W.Frag) (C : Addr) (f : Str) : Bool := He.eqO (PySem.W.findIn K (.ref C) f) (some (some (.ref (He.ma K C f)))) && (He.eqO (PySem.W.specialIn K (.ref (He.ma K C f)) "__get__") (some (some (.builtin "property.__get__"))) &&
  (decide (PySem.W.takesIn K (.ref (He.ma K C f)) = some true) && (match PySem.W.recIn K (He.ma K C f) "property" with
    | some (.ref _ :: _) => true
    | _ => false)))
theorem propB_ok {K : PySem.W.Frag} {C : Addr} {f : Str} (h : propB K C f = true) : PropOf K C f (He.ma K C f) (prA K C f) := by
  obtain ⟨h1, h⟩ := band h
  obtain ⟨h2, h⟩ := band h
  obtain ⟨h3, h4⟩ := band h
  refine ⟨He.eqO_ok h1, He.eqO_ok h2, of_decide_eq_true h3, ?_⟩
  unfold prA
  split at h4
  · rename_i g r e
    exact ⟨r, by rw [e]⟩
  · cases h4
abbrev cmA (K : PySem.W.Frag) (C : Addr) (m : Str) : Addr := He5.wf K C "classmethod" m
def cmB (K : PySem.W.Frag) (C : Addr) (m : Str) : Bool := PySem.W.readsIn K C (.type "type") && (He.eqO (PySem.W.specialIn K (.ref C) "__getattribute__") (some (some (.builtin "type.__getattribute__"))) && (He5.wrapB K C "classmethod" "classmethod.__get__" m && PySem.W.fnIn K (cmA K C m)))
theorem cmB_ok {K : PySem.W.Frag} {C : Addr} {m : Str} (h : cmB K C m = true) : ClX.CRead K C (.type "type") ∧ ClX.CMet K C (.type "type") m (He.ma K C m) (cmA K C m) := by
  obtain ⟨h1, h⟩ := band h
  obtain ⟨h2, h⟩ := band h
  obtain ⟨h3, h4⟩ := band h
  obtain ⟨k1, k2⟩ := He5.wrapB_ok h3
  exact ⟨⟨h1, He.eqO_ok h2⟩, ⟨k1, k2, h4⟩⟩
def hanB (K : PySem.W.Frag) (C : Addr) (f : Str) : Bool := xfB K C && (He.eqO (PySem.W.findIn K (.ref C) f) (some none) && decide (PySem.W.exmOne K (.ref C) (.ref C) = some true))
theorem hanB_ok {K : PySem.W.Frag} {mg : Str → Option Value} {x f : Str} (h : hanB K (He.ga K x) f = true) (hm : mg x = some (.ref (He.ga K x))) : HanC K mg x f := by
  obtain ⟨h1, h⟩ := band h
  obtain ⟨h2, h3⟩ := band h
  exact ⟨xfB_ok h1, He.eqO_ok h2, of_decide_eq_true h3, hm⟩
theorem errF_mk {P : Program} {w : World} {K : PySem.W.Frag} {mg : Str → Option Value} {base : Heap} {x f pre : Str} {d : DefX} {j : Nat} {p0 p1 p2 p3 p4 p5 p6 p7 p8 p9 p10 p11 p12 : Pos} {ar : Arg} {pl : Sem Bool}
    (hb : supB P.main.file K (He.ga K x) = true) (hh : hanB K (He.ga K x) f = true) (e : fnV K (iniA K (He.ga K x)) = d.val) (hn : d.name = ("__init__" : Str)) (hf : d.free = [("__class__" : Str)]) (ht : (P.main.scope.names.lookup ("super" : Str)).isSome = false) (hbody : d.body = supBody f pre j p0 p1 p2 p3 p4 p5 p6 p7 p8 p9 p10 p11 p12)
    (he : ∀ env : Env, eval (.Call (.Attribute (.Call (.Name "super" p0) [] [] p1) "__init__" p2) [.JoinedStr [.Constant (.str pre) j p3, .FormattedValue (.Name f p4) (-1) none p5] p6] [] p7) env = (do
      let ov ← attributeBase (.Call (.Name "super" p0) [] [] p1) "__init__" env (eval (.Call (.Name "super" p0) [] [] p1) env)
      standAt p2.atName
      let (f', first) ← holding [ov] (getMethod ov "__init__" pl)
      callWith p7 f' first (backTo p7 (starEach [.JoinedStr [.Constant (.str pre) j p3, .FormattedValue (.Name f p4) (-1) none p5] p6] env)) []))
    (hk : d.scope.kind = .function) (hco : d.scope.isCoroutine = false) (hgen : d.scope.isGenerator = false) (hl1 : d.scope.names.lookup ("self" : Str) = some .local) (hl2 : d.scope.names.lookup f = some .local) (hls : d.scope.names.lookup ("super" : Str) = some .globalImplicit) (hlc : d.scope.names.lookup ("__class__" : Str) = some .free) (hne : f ≠ ("self" : Str))
    (hcell : ∀ x ∈ d.scope.names, x.2 ≠ .cell) (hfree : ∀ x ∈ d.scope.names, x.2 = .free → x.1 = ("__class__" : Str)) (hp : (d.params.posonlyargs ++ d.params.args).head? = some ar) (har : ar.arg = ("self" : Str)) (hdb : (f == ("__debug__" : Str)) = false) (hdc : (f == ("__classdict__" : Str)) = false)
    (hbi : ∀ (cc : Addr) (kV doc pm : Value) (an : Option Addr) (cdv ct : Value) (us : List Value), us.length = 2 → bindArgs (PySem.W.fnX "__init__" d.qual d.params d.body d.scope [("__class__", cc)] .none kV doc pm an cdv ct) ⟨us, []⟩ = pure ((["self", f] : List Str).zip us))
    (hm : mg x = some (.ref (He.ga K x))) (hsup : mg "super" = none) (hpre : pre.length ≤ 1000) : ErrF P w K mg base x f := by
  obtain ⟨fd, S, kp, dfl, cc, dV, kV, doc, pm, an, cdv, ct, efd⟩ := supB_ok hb e hn hf ht
  obtain ⟨_, hh2⟩ := band hh
  obtain ⟨hno, _⟩ := band hh2
  have S2 := S
  rw [hbody] at S2
  refine ⟨⟨iniA K (He.ga K x), fd, pre, S.oex, S.init, S.fty, sup_fn (k := 0) he S2 hsup (He.eqO_ok hno) hk hco hgen hl1 hl2 hls hlc hne (fun y hy => hcell _ (mem_of_lookup hy) rfl) hcell (fun y hy => hfree _ (mem_of_lookup hy) rfl) hp har hdb hdc, ?_, hpre⟩, hm⟩
  subst efd
  rcases dfl with ⟨_, e1⟩ | ⟨e1, _⟩
  · dsimp only at e1
    subst e1
    exact .all fun us hl => hbi cc kV doc pm an cdv ct us hl
  · exact absurd rfl e1
end DX
set_option maxHeartbeats 4000000
/-! DX7: for in a generator def. -/
namespace DX
open PySem PySem.Spec PySem.Calls PyProof.Rows L2 DL DH GenW

section
variable {M : Model} {A : Around} {R : GenEnd} {Y : Protocol} {n : Nat} {s₀ : Shared} {c : Code} {fs : List Frame} {s : Shared} {env : Env}
  {K : Flow → Sem PySem.Fin} {H : Value → Sem PySem.Fin} {gd : Bool → Bool} {lv : List Value → List Value}
theorem seg_For {tg iter : Expr} {body : List Stmt} {pos : Pos} (hs : ∀ x, foldedSetIterable iter env x = pure x)
    (h : wpAny M (A.over c fs) (eval iter env) (fun v s1 => wpAny M (A.over c fs) (pyIter v) (fun it s2 => ∀ p, Seg M A R Y n s₀ (.forLoop tg it body [] env) (M.den (.forLoop tg it body [] env))
      (.ret (fun r => ((match r with | .ok f => (.pure f : Sem Flow) | .error e => .raise e).onRaise (cameBack env)).wrap K H gd lv) none (gd false) (lv []) c p [] :: fs) s2) (fun x s' => Seg M A R Y n s₀ c (H x) fs s') s1) (fun x s' => Seg M A R Y n s₀ c (H x) fs s') s) :
    Seg M A R Y n s₀ c ((exec (.For tg iter body [] pos) env).wrap K H gd lv) fs s := by
  rw [exec_For]
  refine seg_at ?_
  show Seg M A R Y n s₀ c ((eval iter env >>= fun v => foldedSetIterable iter env v >>= fun x => standAt iter.pos >>= fun _ => holding [x] (pyIter x) >>= fun it => runOwn (.forLoop tg it body [] env) env).wrap K H gd lv) fs s
  refine seg_bind_wrap (wpAny_mono h (fun v s1 h1 => ?_) fun _ _ z => z)
  rw [hs v]
  show Seg M A R Y n s₀ c ((standAt iter.pos >>= fun _ => holding [v] (pyIter v) >>= fun it => runOwn (.forLoop tg it body [] env) env).wrap K H gd lv) fs s1
  refine seg_at ?_
  show Seg M A R Y n s₀ c ((holding [v] (pyIter v) >>= fun it => runOwn (.forLoop tg it body [] env) env).wrap K H gd lv) fs s1
  refine seg_bind_wrap (wpAny_holding (wpAny_mono h1 (fun it s2 h2 => ?_) fun _ _ z => z))
  exact seg_call h2
end
section
variable {prog : Program} {w : World} {A : Around} {R : GenEnd} {Y : Protocol} {n : Nat} {s₀ : Shared} {fs : List Frame} {s : Shared} {env : Env}
theorem seg_forLoop {tg : Expr} {it : Value} {body : List Stmt}
    (h : wpAny (model prog w) (A.over (.forLoop tg it body [] env) fs) (pyNext it) (fun r s1 => match r with
      | none => Seg (model prog w) A R Y n s₀ (.forLoop tg it body [] env) (.pure (.again (.block [] env))) fs s1
      | some v => wpAny (model prog w) (A.over (.forLoop tg it body [] env) fs) (letOwnedTupleGo tg it v) (fun _ s2 => wpAny (model prog w) (A.over (.forLoop tg it body [] env) fs) (assign tg env v) (fun _ s3 =>
          Seg (model prog w) A R Y n s₀ (.forLoop tg it body [] env) ((execs body env).wrap (fun f => match f with
            | .next | .cont => .pure (.again (.forLoop tg it body [] env))
            | .brk => .pure (.done .next)
            | .ret v => .pure (.done (.ret v))) (fun e => (do noteFrame e env; theTreesLotGoes e : Sem Unit).wrap (fun _ => .raise e) .raise id id) id id) fs s3)
          (fun x s' => Seg (model prog w) A R Y n s₀ (.forLoop tg it body [] env) ((do noteFrame x env; theTreesLotGoes x : Sem Unit).wrap (fun _ => .raise x) .raise id id) fs s') s2)
        (fun x s' => Seg (model prog w) A R Y n s₀ (.forLoop tg it body [] env) ((do noteFrame x env; theTreesLotGoes x : Sem Unit).wrap (fun _ => .raise x) .raise id id) fs s') s1)
      (fun x s' => Seg (model prog w) A R Y n s₀ (.forLoop tg it body [] env) ((do noteFrame x env; theTreesLotGoes x : Sem Unit).wrap (fun _ => .raise x) .raise id id) fs s') s) :
    Seg (model prog w) A R Y n s₀ (.forLoop tg it body [] env) ((model prog w).den (.forLoop tg it body [] env)) fs s := by
  have ee : ∀ (x : Value), (do noteFrame x env; theTreesLotGoes x : Sem Unit).bind (fun _ => (.raise x : Sem PySem.Fin)) = (do noteFrame x env; theTreesLotGoes x : Sem Unit).wrap (fun _ => .raise x) .raise id id := fun x => by
    rw [Sem.bind_eq_wrap]
  show Seg _ A R Y n s₀ _ ((forTurn tg it body [] env).onRaise (fun x => do noteFrame x env; theTreesLotGoes x)) fs s
  rw [Sem.onRaise_eq_wrap]
  unfold forTurn
  refine seg_at ?_
  show Seg _ A R Y n s₀ _ (((pyNext it).onRaise (fun _ => standAt { tg.pos with line := 0 }) >>= fun r => match r with
    | none => again (.block [] env)
    | some v => letOwnedTupleGo tg it v >>= fun _ => assign tg env v >>= fun _ => execs body env >>= fun f => match f with
      | .next | .cont => again (.forLoop tg it body [] env)
      | .brk => pure (.done .next)
      | .ret v => pure (.done (.ret v))).wrap _ _ _ _) fs s
  refine seg_bind_wrap (wpAny_onRaise (wpAny_mono h (fun r s1 h1 => ?_) fun x s' hx => wpAny_standAt ?_))
  · cases r with
    | none => exact h1
    | some v =>
      refine seg_bind_wrap (wpAny_mono h1 (fun _ s2 h2 => ?_) fun x s' hx => by first | exact hx | (rw [ee]; exact hx))
      refine seg_bind_wrap (wpAny_mono h2 (fun _ s3 h3 => ?_) fun x s' hx => by first | exact hx | (rw [ee]; exact hx))
      rw [Sem.bind_eq_wrap', Sem.wrap_wrap]
      rw [Sem.wrap_congr (execs body env) _ _ (K' := fun f => match f with
            | .next | .cont => .pure (.again (.forLoop tg it body [] env))
            | .brk => .pure (.done .next)
            | .ret v => .pure (.done (.ret v))) (H' := (fun e => (do noteFrame e env; theTreesLotGoes e : Sem Unit).wrap (fun _ => .raise e) .raise id id))
        (fun f => by cases f <;> rfl)
        (fun e => by first | exact Sem.bind_eq_wrap _ _ | (show (do noteFrame e env; theTreesLotGoes e : Sem Unit).bind (fun _ => .raise e) = _; rw [Sem.bind_eq_wrap]))]
      exact h3
  · first | exact hx | (rw [ee]; exact hx)
end
def tGFor (wi : TI) (g : TG) (tb : TGn) : TGn := fun D ys σ H => wi σ H fun J H1 => ∃ W : Nat → Nat → List V → L2.St → Hp → Prop, (∃ m, W 0 m ys σ H1) ∧ ∀ i m ys σ H, W i m ys σ H →
  (J.stop i H ∧ D.nx ys σ H) ∨ (J.go i H ∧ ∃ N : List V → L2.St → Hp → Prop, (∀ ys' σ' H', N ys' σ' H' → ∃ m', m' < m ∧ W (i + 1) m' ys' σ' H') ∧ ∀ x H', J.yld i H x H' → g x σ H' fun σ2 H2 => tb { D with nx := N, ct := N, bk := D.nx } ys σ2 H2)
section
variable {X : Cx} {tg : Expr}
theorem gs_for {iter : Expr} {body : List Stmt} {wi : TI} {g : TG} {tb : TGn} {pos : Pos} (hp : PassesOwn (model X.prog X.w) X.A X.env X.xe) (hc : X.calm = true) (hi : PI X tg iter wi) (hg : PG X tg g) (hb : GSs X body tb)
    (hs : ∀ x, foldedSetIterable iter X.env x = pure x) : GS X (.For tg iter body [] pos) (tGFor wi g tb) := by
  refine ⟨fun A S ip R n ys s₀ c fs K J gd lv s σ H D gg hn k hI ht => ?_⟩
  obtain ⟨acc, cc, r, I⟩ := hI
  refine seg_For hs ?_
  rw [gg.over]
  refine wpAny_mono (hi.run _ s σ H _ I ht) (fun v s1 h1 => wpAny_mono h1 (fun itv s2 h2 => ?_) fun x s' hx => k.exc n s₀ x s' hx) fun x s' hx => k.exc n s₀ x s' hx
  obtain ⟨it, fp, tn, JJ, H2, e, I2, T, st2, f2, W, ⟨m0, w0⟩, turn⟩ := h2
  subst e
  intro p
  have gl := fun (kk : Result → Sem PySem.Fin) => gc_loop (k := kk) (c' := .forLoop tg (.ref it) body [] X.env) (l := lv []) (kp := []) (p := p) gg rfl rfl
  have gb := fun (kk : Result → Sem PySem.Fin) => gc_loop (k := kk) (c' := .block [] X.env) (l := lv []) (kp := []) (p := p) gg rfl rfl
  have hfS : ∀ b ∈ fp, b ≠ S := fun b hb z => (f2 b hb).2.2.2.2.2 (S, lstObj acc cc) (List.mem_append_right _ List.mem_cons_self) z.symm
  -- what stays true of the iterator's objects
  have stat : ∀ {H' : Hp} {ac : Array Value} {ca : Nat}, (∀ b ∈ fp, H' b = none) → ∀ b ∈ fp, FpOk X ((S, lstObj ac ca) :: ip) H' b := fun {H' ac ca} hn b hb => by
    obtain ⟨_, q1, q2, q3, q4, q5⟩ := f2 b hb
    refine ⟨hn b hb, q1, q2, q3, q4, fun p hp => ?_⟩
    rcases List.mem_append.mp hp with hp | hp
    · exact q5 p (List.mem_append_left _ hp)
    · rcases List.mem_cons.mp hp with hp | hp
      · rw [hp]; exact (hfS b hb).symm
      · exact q5 p (List.mem_append_right _ (List.mem_cons_of_mem _ hp))
  have loop : ∀ (m i n : Nat) (ys : List V) (s₀ s : Shared) (σ : L2.St) (H : Hp), n + ys.length = sizeLine → W i m ys σ H → GI X S ip ys σ H s → tn i s.heap → (∀ b ∈ fp, H b = none) →
      Seg (model X.prog X.w) A R (GY X S) n s₀ (.forLoop tg (.ref it) body [] X.env) ((model X.prog X.w).den (.forLoop tg (.ref it) body [] X.env))
        (.ret (fun r => ((match r with | .ok f => (.pure f : Sem Flow) | .error e => .raise e).onRaise (cameBack X.env)).wrap K J gd lv) none (gd false) (lv []) c p [] :: fs) s := by
    intro m
    induction m using Nat.strongRecOn with
    | ind m ih =>
      intro i n ys s₀ s σ H hn w hI hst hfr
      have ee : ∀ (n : Nat) (s₀ : Shared) (x : Value) (s' : Shared), X.xe x s' → Seg (model X.prog X.w) A R (GY X S) n s₀ (.forLoop tg (.ref it) body [] X.env)
          ((do noteFrame x X.env; theTreesLotGoes x : Sem Unit).wrap (fun _ => .raise x) .raise id id)
          (.ret (fun r => ((match r with | .ok f => (.pure f : Sem Flow) | .error e => .raise e).onRaise (cameBack X.env)).wrap K J gd lv) none (gd false) (lv []) c p [] :: fs) s' := fun n s₀ x s' hx => by
        refine seg_wrap ?_
        rw [(gl _).over]
        refine wpAny_bind (wpAny_mono (hp x s' hx) (fun _ s'' hcb => wpAny_theTreesLotGoes ?_) fun y s'' hcb => ?_)
        · exact seg_leaf (.error x) (seg_cameBack gg k hcb)
        · exact seg_leaf (.error y) (seg_cameBack gg k hcb)
      refine seg_forLoop ?_
      rw [(gl _).over]
      obtain ⟨acc, cc, r, I⟩ := hI
      rcases turn i m ys σ H w with ⟨stop, qn⟩ | ⟨go, N, hN, step⟩
      · refine wpAny_mono (T.done X rfl rfl rfl hc i _ s σ H (fun x s' => X.xe x s') I (stat hfr) hst stop) (fun r s4 ⟨hr, I4⟩ => ?_) fun x s' hx => ee n s₀ x s' hx
        subst hr
        refine seg_again rfl ?_
        show Seg _ _ _ _ _ _ _ (Sem.pure (.done .next)) _ _
        exact seg_leaf (.ok .next) (k.ok n ys s₀ s4 .next hn ⟨σ, H, ⟨acc, cc, r, I4⟩, qn⟩)
      · refine wpAny_mono (T.item X rfl rfl rfl hc i _ s σ H (fun x s' => X.xe x s') I (stat hfr) hst go) (fun r s4 ⟨u, hr, h4⟩ => ?_) fun x s' hx => ee n s₀ x s' hx
        subst hr
        refine wpAny_mono h4 (fun _ s5 ⟨x, H5, I5, r5, y5, st5, fr5⟩ => ?_) fun x s' hx => ee n s₀ x s' hx
        have I5' := I5.pinned (stat fr5) (T.obj _ _ st5)
        refine wpAny_mono (hg.run _ s5 σ H5 x u _ I5' r5 (step x H5 y5)) (fun _ s6 ⟨σ6, H6, I6, q6⟩ => ?_) fun x s' hx => ee n s₀ x s' hx
        have hipS : ∀ p ∈ ip ++ pinsAt fp s5.heap, p.1 ≠ S := fun p hp => (List.mem_append.mp hp).elim (gg.ip p) fun z => hfS _ (of_pinsAt z).1
        have g6 : GI X S (ip ++ pinsAt fp s5.heap) ys σ6 H6 s6 := ⟨acc, cc, r, by simpa using I6⟩
        have again : ∀ {n' : Nat} {ys' : List V} {s₀' s7 : Shared} {σ7 : L2.St} {H7 : Hp}, n' + ys'.length = sizeLine → GI X S (ip ++ pinsAt fp s5.heap) ys' σ7 H7 s7 → N ys' σ7 H7 →
            Seg (model X.prog X.w) A R (GY X S) n' s₀' (.forLoop tg (.ref it) body [] X.env) (.pure (.again (.forLoop tg (.ref it) body [] X.env)))
              (.ret (fun r => ((match r with | .ok f => (.pure f : Sem Flow) | .error e => .raise e).onRaise (cameBack X.env)).wrap K J gd lv) none (gd false) (lv []) c p [] :: fs) s7 := fun {n' ys' s₀' s7 σ7 H7} hn' hI7 n7 => by
          obtain ⟨m', hm, w7⟩ := hN ys' σ7 H7 n7
          obtain ⟨acc7, cc7, r7, I7⟩ := hI7
          have pin7 : ∀ q ∈ pinsAt fp s5.heap, s7.heap.get? q.1 = some q.2 ∧ H7 q.1 = none := fun q hq => by
            have z := I7.pin q (List.mem_append_right _ (List.mem_cons_of_mem _ (List.mem_append_right _ hq)))
            exact ⟨z.1, z.2.1⟩
          refine seg_again rfl (ih m' hm (i + 1) n' ys' s₀' s7 σ7 H7 hn' w7 ⟨acc7, cc7, r7, I7.pins_of fun q hq => I7.pin q ?_⟩ (T.keep _ _ _ st5 fun b hb o e => (pin7 (b, o) (mem_pinsAt hb e)).1) fun b hb => ?_)
          · rcases List.mem_cons.mp hq with hq | hq
            · rw [hq]; exact List.mem_append_right _ List.mem_cons_self
            · exact List.mem_append_right _ (List.mem_cons_of_mem _ (List.mem_append_left _ hq))
          · obtain ⟨o, e, d⟩ := T.obj _ _ st5 b hb
            exact (pin7 (b, o) (mem_pinsAt hb e)).2
        have down : ∀ {ys' : List V} {s7 : Shared} {σ7 : L2.St} {H7 : Hp}, GI X S (ip ++ pinsAt fp s5.heap) ys' σ7 H7 s7 → GI X S ip ys' σ7 H7 s7 := fun {ys' s7 σ7 H7} hI7 => by
          obtain ⟨acc7, cc7, r7, I7⟩ := hI7
          refine ⟨acc7, cc7, r7, I7.pins_of fun q hq => I7.pin q ?_⟩
          rcases List.mem_cons.mp hq with hq | hq
          · rw [hq]; exact List.mem_append_right _ List.mem_cons_self
          · exact List.mem_append_right _ (List.mem_cons_of_mem _ (List.mem_append_left _ hq))
        refine hb.run A S (ip ++ pinsAt fp s5.heap) R n ys s₀ _ _ _ _ id id s6 σ6 H6 { D with nx := N, ct := N, bk := D.nx } ⟨gg.pn, hipS, gg.apart, (gl _).over, (gl _).split, (gl _).guard, rfl⟩ hn ⟨fun n' ys' s₀' s7 f hn' hs => ?_, fun n' s₀' x s7 hx => ee n' s₀' x s7 hx⟩ g6 q6
        cases f with
        | next =>
          obtain ⟨σ7, H7, I7, n7⟩ := hs
          exact again hn' I7 n7
        | cont =>
          obtain ⟨σ7, H7, I7, n7⟩ := hs
          exact again hn' I7 n7
        | brk =>
          obtain ⟨σ7, H7, I7, n7⟩ := hs
          exact seg_leaf (.ok .next) (k.ok n' ys' s₀' s7 .next hn' ⟨σ7, H7, down I7, n7⟩)
        | ret v =>
          obtain ⟨x7, σ7, H7, I7, r7, n7⟩ := hs
          exact seg_leaf (.ok (.ret v)) (k.ok n' ys' s₀' s7 (.ret v) hn' ⟨x7, σ7, H7, down I7, r7, n7⟩)
  exact loop m0 0 n ys s₀ s2 σ H2 hn w0 ⟨acc, cc, r, I2⟩ st2 fun b hb => (f2 b hb).1
end
end DX
set_option maxHeartbeats 4000000
/-! DX8: a generator def: for tg in iter: yield e; list(o.m()). -/
namespace DX
open PySem PySem.Spec PySem.Calls PyProof.Rows L2 DL DH GenW

theorem gss_ex {X : Cx} {T : Type} {ss : List Stmt} {t : T → TGn} (h : ∀ q, GSs X ss (t q)) : GSs X ss (fun D ys σ H => ∃ q, t q D ys σ H) :=
  ⟨fun A S ip R n ys s₀ c fs K J gd lv s σ H D g hn k hI ⟨q, ht⟩ => (h q).run A S ip R n ys s₀ c fs K J gd lv s σ H D g hn k hI ht⟩
def allP {P : Type} (dec : D → Option P) : List D → Option (List P)
  | [] => some []
  | d :: ds => match dec d, allP dec ds with
    | some p, some ps => some (p :: ps)
    | _, _ => none
theorem allP_at {P : Type} {dec : D → Option P} : ∀ {ds : List D} {ps : List P}, allP dec ds = some ps → ps.length = ds.length ∧ ∀ (i : Nat) (h : i < ds.length), ∃ p, ps[i]? = some p ∧ dec ds[i] = some p
  | [], ps, h => by
    cases h
    exact ⟨rfl, fun i h => absurd h (Nat.not_lt_zero _)⟩
  | d :: ds, ps, h => by
    unfold allP at h
    cases e1 : dec d with
    | none => rw [e1] at h; cases h
    | some p =>
      cases e2 : allP dec ds with
      | none => rw [e1, e2] at h; cases h
      | some qs =>
        rw [e1, e2] at h
        cases h
        obtain ⟨h1, h2⟩ := allP_at e2
        refine ⟨by simp [h1], fun i h => ?_⟩
        cases i with
        | zero => exact ⟨p, rfl, e1⟩
        | succ i =>
          obtain ⟨q, q1, q2⟩ := h2 i (by simpa using h)
          exact ⟨q, by simpa using q1, by simpa using q2⟩
def genL {P : Type} (dec : D → Option P) (out : P → D) (ds : List D) : M (List D) := match allP dec ds with
  | some ps => pure (ps.map out)
  | none => M.stuck
theorem gen_for {X : Cx} {E : XK} {σd : List Sl} {P : Type} {dec : D → Option P} {out : P → D} {up : P → List Sl → List Sl} {g : TG} {ix : List Nat} {tg iter e : Expr} {mi : M (List D)} {yp p1 pos : Pos}
    (hp : PassesOwn (model X.prog X.w) X.A X.env X.xe) (hc : X.calm = true) (hg : GOk X.K g ix dec up) (hi : DI X (fun _ => E) σd tg iter mi) (hpg : PG X tg g) (hf : ∀ x, foldedSetIterable iter X.env x = pure x)
    (hw : ∀ p, Wk σd (up p σd)) (he : ∀ p, DE X (fun _ => E) (up p σd) e (pure (out p))) (hco : X.env.scope.isCoroutine = false) (hin : interactive X.env = false) :
    ∃ t, GSs X [.For tg iter [.Expr (.Yield (some e) yp) p1] [] pos] t ∧ ∀ (cont : List V → Hp → Prop) (rt : List V → VK) (σ : L2.St) (H : Hp) (W : Wd) (st : Store), Holds X.K W H st → Slots X.K W H σd σ →
      After X.K W H E ((mi >>= genL dec out) st) (fun ds W' H' _ => ∀ vs, Reps X.K W' H' vs ds → cont vs H') → t { nx := fun ys _ H' => cont ys H', rt := rt } [] σ H := by
  refine ⟨_, gss_cons (gs_for hp hc hi.pi hpg (gss_ex fun p => gss_cons (gs_yield (he p).pe hco hin) gss_nil) hf) gss_nil, fun cont rt σ H W st hh hs h => ?_⟩
  refine ⟨W, st, hh, hs, (After.stmt hs hh h).mono fun ds W1 H1 st1 _ _ _ ⟨e1, hh1, hs1, h1⟩ hz J hJ => ?_⟩
  unfold genL at h1
  cases hps : allP dec ds with
  | none => rw [hps] at h1; exact h1.elim
  | some ps =>
    rw [hps] at h1
    obtain ⟨hl, hat⟩ := allP_at hps
    refine ⟨fun i m ys σ2 H2 => m = ds.length - i ∧ i ≤ ds.length ∧ ∃ (W2 : Wd), Ext W1 W2 H1 H2 ∧ Holds X.K W2 H2 st1 ∧ Slots X.K W2 H2 σd σ2 ∧ Reps X.K W2 H2 ys ((ps.take i).map out), ?_, ?_⟩
    · exact ⟨ds.length, by omega, Nat.zero_le _, W1, Ext.refl, hh1, hs1, rfl⟩
    · rintro i m ys σ2 H2 ⟨rfl, hi, W2, e2, hh2, hs2, ry⟩
      obtain ⟨js, jg⟩ := hJ W2 H2 st1 e2 hh2
      have hyl : ys.length = i := by
        rw [ry.length, List.length_map, List.length_take, hl]
        omega
      by_cases hlt : i < ds.length
      · refine .inr ?_
        obtain ⟨go, yld⟩ := jg i ds[i] (List.getElem?_eq_getElem hlt)
        refine ⟨go, fun ys' σ3 H3 => ∃ m', m' < ds.length - i ∧ (m' = ds.length - (i + 1) ∧ i + 1 ≤ ds.length ∧ ∃ (W2 : Wd), Ext W1 W2 H1 H3 ∧ Holds X.K W2 H3 st1 ∧ Slots X.K W2 H3 σd σ3 ∧ Reps X.K W2 H3 ys' ((ps.take (i + 1)).map out)), fun ys' σ3 H3 hn => hn, fun x H3 hy => ?_⟩
        obtain ⟨W3, e3, hh3, rx⟩ := yld x H3 hy
        obtain ⟨p, hp1, hp2⟩ := hat i hlt
        refine hg.run W3 H3 st1 _ _ ds[i] x p _ hh3 (hs2.ext e3) rx hp2 fun σ4 hs4 _ => ⟨p, ?_⟩
        refine ⟨by rw [sizeLine_eq]; omega, W3, st1, hh3, hs4, fun W5 H5 e5 hh5 v rv => ?_⟩
        refine ⟨ds.length - (i + 1), by omega, rfl, hlt, W5, (e2.trans e3).trans e5, hh5, (hs4.ext e5).wk (hw p), ?_⟩
        have et : (ps.take (i + 1)).map out = (ps.take i).map out ++ [out p] := by
          rw [List.take_add_one, hp1, List.map_append]
          rfl
        rw [et]
        exact (Reps.ext (e3.trans e5) _ _ ry).append ⟨v, [], rfl, rv, rfl⟩
      · have e : i = ds.length := by omega
        subst e
        refine .inl ⟨js, ?_⟩
        have h2 := h1.shift e2
        rw [← hl, List.take_length] at ry
        exact h2 W2 H2 Ext.refl hh2 ys ry
/-- a generator def's promise -/
def SpGD (K : PySem.W.Frag) (mg : D → M (List D)) : SpG := fun vs H cont E => ∃ (W : Wd) (st : Store) (d : D), Holds K W H st ∧ Reps K W H vs [d] ∧ After K W H E (mg d st) (fun ds W' H' _ => ∀ out, Reps K W' H' out ds → cont out H')
structure GMetD (P : Program) (w : World) (K : PySem.W.Frag) (mg : Str → Option Value) (base : Heap) (k : Nat) (C m : Str) (mf : D → M (List D)) : Prop where
  ex : ∃ g fd ps, Meth K (He.ga K C) m g ∧ GFn P w K mg base k g fd ps (SpGD K mf) ∧ Binds K fd ps []
section
variable {P : Program} {w : World} {K : PySem.W.Frag} {mg : Str → Option Value} {base : Heap} {x qual p1 : Str} {params : Arguments} {body : List Stmt} {scope : Scope} {f : Addr} {fd : FuncData} {N : List Str} {k : Nat} {mf : D → M (List D)}
theorem gfn_body (F : FunD K x qual params body scope [] [] f fd) (S : GScope N [p1] scope)
    (hbody : ∀ (cdv : Value) (A : Around) (outer : List Env) (s : Shared) (H : Hp) (E : XK) (pn : List (Addr × Obj)) (d : D), Room k (A.deeper (envOfC qual scope s.heap.objs.size f cdv)) → ∃ t, GSs (gcxOf P w K mg base N qual scope f cdv A outer s H E pn) body t ∧
      ∀ (cont : List V → Hp → Prop) (rt : List V → VK) (σ : L2.St) (H : Hp) (W : Wd) (st : Store), Holds K W H st → Slots K W H (startD N [d]) σ → After K W H E (mf d st) (fun ds W' H' _ => ∀ vs, Reps K W' H' vs ds → cont vs H') → t { nx := fun ys _ H' => cont ys H', rt := rt } [] σ H) :
    GFn P w K mg base (k + 1) f fd [p1] (SpGD K mf) := by
  obtain ⟨oc, od, dV, kV, doc, pm, an, cdv, ct, osl, rfl, lk, hcd, _, _⟩ := F.ex
  refine gfn_of lk hcd S (fun vs H Q E ⟨W, st, d, hh, r, h⟩ => r.length) (fun A outer s H vs Q E pn hr ⟨W, st, d, hh, r, h⟩ => ?_)
  obtain ⟨t, ht, hb⟩ := hbody cdv A outer s H E pn d hr
  exact ⟨t, ht, hb Q _ _ H W st hh (Slots.start r) h⟩
end
section
variable {X : Cx} {E : DL.St → XK} {σd : List Sl} {e o : Expr} {mo : M D} {pos pos' p apos : Pos} {C m : Str} {mf : D → M (List D)} {j k : Nat} {fin : List D → M D}
/-- list(o.m()), m a generator def -/
theorem de_listG {pl : Sem Bool} (hf : FinOk X.K fin) (c : Cls X.K (He.ga X.K C)) (F : GMetD X.prog X.w X.K X.mg X.base j C m mf) (hr : Room k X.A) (hj : j + 3 ≤ k) (hg : Gl X "list") (hm : X.mg "list" = none) (ho : DE X E σd o mo)
    (ht : eval (.Call (.Attribute o m apos) [] [] pos') X.env = (do
      let ov ← eval o X.env
      standAt apos.atName
      let (f, first) ← holding [ov] (getMethod ov m pl)
      callWith pos' f first (backTo pos' (starEach [] X.env)) (backToKw pos' (keywordEach [] X.env))))
    (he : starEach [.Call (.Attribute o m apos) [] [] pos'] X.env = (false, eval (.Call (.Attribute o m apos) [] [] pos') X.env) :: starEach [] X.env) :
    DE X E σd (.Call (.Name "list" p) [.Call (.Attribute o m apos) [] [] pos'] [] pos) (mo >>= fun x => recv C m x >>= fun _ => nox (mf x) >>= fin) := by
  obtain ⟨g, fd, ps, hm1, G, hb⟩ := F.ex
  refine ⟨pe_imp (pe_listG (E := fun _ _ _ => False) (pgen_meth0 (dvs := []) (ds := []) ho.pe c hm1 G (hr.mono (by omega)) hb .nil ht) (fun pins σ H s e s' I c => ?_) (fun cls d H h => h.elim) (hr.mono hj) hg hm (by rfl) (by decide) (by decide) he) fun σ H Q ⟨W, st, hh, hs, h⟩ => tD_run hh hs h fun d v W1 H1 st1 e1 hh1 hs1 r1 h1 => ?_⟩
  · obtain ⟨_, _, _, _, _, _, _, _, _, _, _, _, z⟩ := c
    exact z.elim
  · obtain ⟨a, dx, vfs, rfl, ea, l, h2⟩ := recv_run hh1 r1 h1
    refine ⟨a, dx, vfs, rfl, ea, l, W1, st1, d, hh1, ⟨_, [], rfl, r1, rfl⟩, ?_⟩
    refine After.nox ((After.bind h2).mono fun ds W2 H2 st2 _ e2 hh2 h3 => ?_) _
    exact fun out ro q hq => hf.new hh2 hq (hf.some h3) ro h3
end
end DX
set_option maxHeartbeats 4000000
/-! DX9: with C(..) as y: both ways out. -/
namespace DX
open PySem PySem.Spec PySem.Calls PyProof.Rows L2 DL DH
open PySem.W

section
variable {prog : Program} {w : World} {A : Around} {E : Value → Shared → Prop} {s : Shared} {env : Env} {K : Frag} {x C fe fx : Addr} {ox : Obj} {od : Option Obj} {pos : Pos}
/-- what is wanted of an error in the suite -/
def Caught (prog : Program) (w : World) (A : Around) (E : Value → Shared → Prop) (env : Env) (x fx : Addr) (Q : Flow → Shared → Prop) (e : Value) (s : Shared) : Prop :=
  wpAny (model prog w) A (noteFrame e env) (fun _ s5 => wpAny (model prog w) A (setFlight e none) (fun _ s6 => some e ≠ some byPass ∧ wpAny (model prog w) A (typeOf e) (fun tv s7 => wpAny (model prog w) A (tracebackOf e) (fun tb s8 =>
    codeAny (model prog w) (A.mark (some e)) (.call (.ref fx) ⟨[.ref x, tv, e, tb], []⟩) (fun r s9 => match r with
      | .ok (.ret u) => u = .none ∧ wpAny (model prog w) A (passOn "with" e env : Sem Flow) Q E s9
      | .ok _ => False
      | .error e' => E e' s9) s8) E s7) E s6) E s5) E s
theorem kw_coreX {b : Value → Sem Unit} {bdy : Sem Flow} {Q : Flow → Shared → Prop} (X : K.In s.heap) (I : InstAt s.heap x ox C od) (he : findIn K (.ref C) "__enter__" = some (some (.ref fe))) (hfe : isFn K (.ref fe) = true) (hx : findIn K (.ref C) "__exit__" = some (some (.ref fx))) (hfx : isFn K (.ref fx) = true)
    (h : wpAny (model prog w) A (call (.ref fe) [.ref x]) (fun v s₂ => wpAny (model prog w) A (b v >>= fun _ => bdy) (fun f s₄ => wpAny (model prog w) A (call (.ref fx) [.ref x, .none, .none, .none]) (fun _ s₅ => Q f s₅) E s₄) (Caught prog w A E env x fx Q) s₂) E s) :
    wpAny (model prog w) A (withItem false pos env (pure (.ref x)) (some b) bdy) Q E s := by
  obtain ⟨cd, hcd, ae⟩ := kw_along he
  obtain ⟨cd', hcd', ax⟩ := kw_along hx
  cases hcd.symm.trans hcd'
  obtain ⟨hh, g, d, tt, os⟩ := s
  have L1 : Looks (model prog w) hh (specialOnItsLine (.ref x) "__enter__") (some (.ref fe), cd.mro) := kw_special X I hcd ae
  have L2 : Looks (model prog w) hh (specialOnItsLine (.ref x) "__exit__") (some (.ref fx), cd.mro) := kw_special X I hcd ax
  have L3 : Looks (model prog w) hh (bindSpecial (.ref fe) (.ref x)) (.ref fe, [.ref x]) := bind_fn X _ (beq_iff_eq.mp hfe)
  have L4 : Looks (model prog w) hh (bindSpecial (.ref fx) (.ref x)) (.ref fx, [.ref x]) := bind_fn X _ (beq_iff_eq.mp hfx)
  have L5 : Looks (model prog w) hh (aMethodOfAnotherBuiltinTypeStops (.ref fe) cd.mro) () := Looks.of_pure rfl
  have L6 : Looks (model prog w) hh (aMethodOfAnotherBuiltinTypeStops (.ref fx) cd.mro) () := Looks.of_pure rfl
  unfold withItem
  refine wpAny_bind (wpAny_pure ?_)
  refine wpAny_bind (wpAny_standAt ?_)
  simp only [Bool.false_eq_true, if_false]
  kw_lk
  refine wpAny_mono h (fun v s₂ h₂ => ?_) fun _ _ z => z
  kw_lk
  refine wpAny_attempt (kw_held ?_)
  show wpAny _ _ (b v >>= fun _ => bdy) _ _ _
  refine wpAny_mono h₂ (fun f s₄ h₄ => ?_) (fun e s₄ h₄ => ?_)
  · kw_lk
    refine wpAny_mono h₄ (fun _ s₅ h₅ => ?_) fun _ _ z => z
    kw_lk
    exact h₅
  · refine wpAny_bind (wpAny_mono h₄ (fun _ s5 h5 => ?_) fun _ _ z => z)
    refine wpAny_bind (wpAny_mono h5 (fun _ s6 ⟨hnb, h6⟩ => ?_) fun _ _ z => z)
    refine wpAny_bind (wpAny_standAt ?_)
    refine wpAny_holding ?_
    refine wpAny_bind (wpAny_mono h6 (fun tv s7 h7 => ?_) fun _ _ z => z)
    refine wpAny_bind (wpAny_mono h7 (fun tb s8 h8 => ?_) fun _ _ z => z)
    refine wpAny_bind ?_
    unfold withItem.marked
    refine wpAny_bind (wpAny_run (codeAny_mono h8 (fun r s9 h9 => ?_)) hnb)
    cases r with
    | error e' => exact h9
    | ok fl =>
      cases fl with
      | ret u =>
        obtain ⟨rfl, h9⟩ := h9
        refine wpAny_pure ?_
        refine wpAny_bind (wpAny_pure ?_)
        refine wpAny_bind (wpAny_pure ?_)
        rw [if_neg Bool.false_ne_true]
        exact h9
      | next => exact False.elim h9
      | brk => exact False.elim h9
      | cont => exact False.elim h9
end
abbrev NoE : XK := fun _ _ _ => False
/-- a class whose instances a with may have -/
structure WithC (P : Program) (w : World) (K : PySem.W.Frag) (mg : Str → Option Value) (base : Heap) (k : Nat) (C : Addr) (spE spX spH : Sp) : Prop where
  ex : ∃ fe fx fdX psX, findIn K (.ref C) "__enter__" = some (some (.ref fe)) ∧ isFn K (.ref fe) = true ∧ findIn K (.ref C) "__exit__" = some (some (.ref fx)) ∧ isFn K (.ref fx) = true ∧
    FnR P w K mg base (L2N.CX P w) k fe spE ∧ FnR P w K mg base (L2N.CX P w) k fx spX ∧ L2H.FnH P w K mg base (L2N.CX P w) k fx fdX psX spH ∧ Binds K fdX psX []
/-- what is wished of an error of the suite: it is told, and flies on -/
def wWith (spH : Sp) (x : Addr) (Wout : WX) : WX := fun cls d σ H => ∃ c, cls = .ref c ∧ ∀ (a : Addr) (tv : V), (tv = .non ∨ ∃ T, tv = .ref T) → spH [.ref x, .ref c, .ref a, tv] H (fun r H4 => r = .non ∧ Wout cls d σ H4) NoE
def tWith (C : Addr) (spE spX spH : Sp) (i : Nat) (te : TE) (tb : WX → TS) (Wout : WX) : TS := fun D σ H => te σ H fun xv H1 => ∃ x dx fs, xv = .ref x ∧ H1 x = some (.ins C dx fs) ∧
  spE [.ref x] H1 (fun v H2 => tb (wWith spH x Wout) { nx := fun σ3 H3 => spX [.ref x, .non, .non, .non] H3 (fun r H4 => D.nx σ3 H4) NoE, rt := fun _ _ => False } (σ.set i (some v)) H2) NoE
theorem noE_pass {X : Cx} {σ : L2.St} : PassesAt (L2N.CX X.prog X.w) X σ NoE := fun _ _ _ _ _ _ c => by
  obtain ⟨_, _, _, _, _, _, _, _, _, _, _, _, z⟩ := c
  exact z.elim
section
variable {X : Cx} {C : Addr} {spE spX spH : Sp} {te : TE} {tb : WX → TS} {Wout : WX} {i k : Nat} {y : Str} {ctx : Expr} {py pos : Pos} {body : List Stmt}
theorem ps_with (hs : X.stack = X.env :: X.outer) (hf : X.env.frame = some X.env.locals) (hex : X.ex = []) (tk : L2N.Takes X Wout) (hC : WithC X.prog X.w X.K X.mg X.base k C spE spX spH) (hr : Room k X.A)
    (hN : X.N.Nodup) (hi : X.N[i]? = some y) (hloc : Loc X.env.scope y) (hfn : X.fn y = true ∨ X.env.scope.names.lookup y = some .local) (he : PE X ctx te)
    (hb : ∀ (W : WX) (pn : List (Addr × Obj)) (xe : Value → Shared → Prop), L2N.Takes (X.tr pn xe) W → PassesOwn (model X.prog X.w) X.A X.env xe → PSs (X.tr pn xe) body (tb W)) :
    PS X (.With [⟨ctx, some (.Name y py)⟩] body pos) (tWith C spE spX spH i te tb Wout) := by
  refine ⟨fun pins s σ H D I h => ?_⟩
  have ok := I.ok
  have hfr : X.A.frames = some (X.env :: X.outer) := by rw [ok.frames, hs]
  obtain ⟨fe, fx, fdX, psX, h1, h2, h3, h4, FE, FX, FH, hbX⟩ := hC.ex
  refine PySem.W.kw_execN (thn (he.run pins s σ H _ I h) fun u s1 ⟨xv, H1, I1, rx, x, dx, fs, ex, ea, hE⟩ => ?_)
  subst ex
  obtain rfl : u = Value.ref x := rx
  obtain ⟨mA, O, _, _, _, _⟩ := ins_get I1.hok ea
  obtain ⟨od, J, _⟩ := O.look
  refine kw_coreX I1.kIn J h1 h2 h3 h4 ?_
  refine wpAny_mono (wpAny_call (run_fnRS (us := [.ref x]) (vs := [.ref x]) FE hr noE_pass I1 (.cons rfl .nil) hE)) (fun v s2 ⟨v', H2, I2, rv, hq⟩ => ?_) fun _ _ z => z
  refine wpAny_bind (wpAny_assign_Name (store_ok I2 hN hi hloc rv (fun s5 I5 => ?_) hfn))
  refine wpAny_mono ((hb (wWith spH x Wout) (X.pn ++ pins) (Caught X.prog X.w X.A X.xe X.env x fx (SP X pins D)) (fun u s' xx => ?_) PassesOwn.looking).run [] s5 _ H2 _ (I5.toTry _) hq) (fun f s4 hsp => ?_) fun e s4 z => z
  · -- an error
    obtain ⟨a, B, sI, pins', σ', H', cls, d, rfl, J', nb, up, sky, na, os, ag, c, ec, hw⟩ := xx
    subst ec
    have J : Inv X pins σ' H' sI := J'.ofTry ok
    have sky' : Sky B (X.env :: X.outer) a (L2N.Zn (.ref c) d) X.env.locals s'.heap := by rw [← hs]; exact sky
    show wpAny (model X.prog X.w) X.A (noteFrame (.ref a) X.env) _ _ _
    refine L2N.Sky.land L2N.Zn.steady hfr hf sky' fun h3 fl3 up3 => ?_
    have J3 : Inv X pins σ' H' { s' with heap := h3 } := J.landed nb fl3.1 (up.trans up3) os ag
    obtain ⟨k1, k2, k3, oe, vs, T, oT, ts, he3, hz, hd, hv1, hnT, hTe, hT, hdT, ht3⟩ := id fl3
    have nT : H' T = none := (J.inGround nb).gone hnT
    have notFr : ∀ (b : Addr) (o : Obj) (fv : Array Value), h3.get? b = some o → o.data = .fields fv → b ∉ frs (X.env :: X.outer) := fun b o fv e dd hm => by
      obtain ⟨_, o', e', hnf⟩ := k3.mem hm
      have eo : o = o' := Option.some.inj (e.symm.trans e')
      rw [← eo] at hnf
      exact hnf _ dd
    have locF : X.env.locals ∈ frs (X.env :: X.outer) := List.mem_filterMap.mpr ⟨X.env, List.mem_cons_self, hf⟩
    have fsF : ∀ b, b ∈ X.fs → b ∈ frs (X.env :: X.outer) := fun b hm => by
      obtain ⟨e, he, q⟩ := List.mem_filterMap.mp hm
      exact List.mem_filterMap.mpr ⟨e, List.mem_cons_of_mem _ he, q⟩
    have fa := notFr a oe vs he3 hd
    have fT := notFr T oT ts hT hdT
    have S3 : Inv (X.suite a ((a, oe) :: (T, oT) :: (X.pn ++ pins))) [] σ' H' { s' with heap := h3 } :=
      ⟨J3.ok.suite _ _, J3.os, J3.bare, J3.base, J3.loc, J3.cell, J3.free, J3.freeC, fun p hp => by
        rw [List.append_nil] at hp
        rcases List.mem_cons.mp hp with z | hp
        · rw [z]
          exact ⟨he3, na, fun z2 => fa (by rw [show a = X.env.locals from z2]; exact locF), fun z2 => fa (fsF _ z2), fun v z2 => by
            have z3 : oe.data = .cell v := z2
            rw [hd] at z3
            cases z3⟩
        · rcases List.mem_cons.mp hp with z | hp
          · rw [z]
            exact ⟨hT, nT, fun z2 => fT (by rw [show T = X.env.locals from z2]; exact locF), fun z2 => fT (fsF _ z2), fun v z2 => by
              have z3 : oT.data = .cell v := z2
              rw [hdT] at z3
              cases z3⟩
          · exact J3.pin p hp, J3.hok, J3.len⟩
    refine ⟨fun z => ref_ne_byPass a (Option.some.inj z), wpAny_typeOf_ref he3 ?_⟩
    rw [hz.1]
    -- the call
    have exitC : ∀ (tv : V) (tw : Value), RelV tv tw → (tv = .non ∨ ∃ T, tv = .ref T) → codeAny (model X.prog X.w) (X.A.mark (some (.ref a))) (.call (.ref fx) ⟨[.ref x, .ref c, .ref a, tw], []⟩) (fun r s9 => match r with
        | .ok (.ret u) => u = .none ∧ wpAny (model X.prog X.w) X.A (passOn "with" (.ref a) X.env : Sem Flow) (SP X pins D) X.xe s9
        | .ok _ => False
        | .error e' => X.xe e' s9) { s' with heap := h3 } := fun tv tw rtv htv => by
      have hsp := hw a tv htv
      have hl : ([Value.ref x, .ref c, .ref a, tw] : List Value).length = psX.length := (FH.len _ _ _ _ hsp)
      have hbb := hbX { s' with heap := h3 } [Value.ref x, .ref c, .ref a, tw] S3.kIn (by rw [List.append_nil]; exact hl)
      rw [List.append_nil] at hbb
      have hpin : L2H.PinOk X.stack H' { s' with heap := h3 } (a, oe) := ⟨he3, na, by rw [hs]; exact fa, fun v z2 => by
        have z3 : oe.data = .cell v := z2
        rw [hd] at z3
        cases z3⟩
      refine codeAny_mono (FH.run (X.A.mark (some (.ref a))) X.stack { s' with heap := h3 } H' ⟨[.ref x, .ref c, .ref a, tw], []⟩ [.ref x, .ref c, .ref a, tw] [.ref x, .ref c, .ref a, tv] _ NoE (a, oe) ⟨hr.dp, hr.un⟩ ⟨rfl, vs, hd, hz.2.2 vs hd⟩ hpin S3.env0 hbb (.cons rfl (.cons rfl (.cons rfl (.cons rtv .nil)))) hsp) fun r s6 hq => ?_
      cases r with
      | error e =>
        obtain ⟨_, _, _, _, _, _, _, _, _, _, _, _, z⟩ := hq
        exact z.elim
      | ok fl =>
        cases fl with
        | next => exact False.elim hq
        | brk => exact False.elim hq
        | cont => exact False.elim hq
        | ret u =>
          obtain ⟨r6, H6, S6, rr, er, q6⟩ := S3.after hq
          subst er
          refine ⟨rr, ?_⟩
          have J6 : Inv X pins σ' H6 s6 := ⟨ok, S6.os, S6.bare, S6.base, S6.loc, S6.cell, S6.free, S6.freeC, fun p hp => S6.pin p (List.mem_append_left _ (List.mem_cons_of_mem _ (List.mem_cons_of_mem _ hp))), S6.hok, S6.len⟩
          have pa := S6.pin (a, oe) (List.mem_append_left _ List.mem_cons_self)
          have pT := S6.pin (T, oT) (List.mem_append_left _ (List.mem_cons_of_mem _ List.mem_cons_self))
          have ga : s6.heap.get? a = some oe := pa.1
          have gT : s6.heap.get? T = some oT := pT.1
          have na6 : H6 a = none := pa.2.1
          have nT6 : H6 T = none := pT.2.1
          have far : ∀ b o, sI.heap.get? b = some o → b ≠ a ∧ b ≠ T := fun b o e => by
            by_cases hb : b ∈ frs X.stack
            · rw [hs] at hb
              exact ⟨fun z => fa (by rw [← z]; exact hb), fun z => fT (by rw [← z]; exact hb)⟩
            · have q := nb b o e hb
              exact ⟨fun z => by
                rw [z, k2] at q
                exact (nomatch q), fun z => by
                rw [z, hnT] at q
                cases q⟩
          have far0 : ∀ b o, X.s_0.heap.get? b = some o → b ≠ a ∧ b ≠ T := fun b o e => by
            obtain ⟨o', q⟩ := J.base.there b o e (by rw [hex]; simp)
            exact far b o' q
          have farP : ∀ p ∈ X.pn ++ pins, p.1 ≠ a ∧ p.1 ≠ T := fun p hp => far p.1 p.2 (J.pin p hp).1
          obtain ⟨G, g1, g2⟩ := restrict s6.heap fun b => !(decide (b = a) || decide (b = T))
          have gIn : ∀ b o, G.get? b = some o → s6.heap.get? b = some o ∧ b ≠ a ∧ b ≠ T := fun b o e => by
            cases q : (!(decide (b = a) || decide (b = T))) with
            | false =>
              rw [g2 b q] at e
              cases e
            | true =>
              rw [g1 b q] at e
              simp only [Bool.not_eq_true', Bool.or_eq_false_iff, decide_eq_false_iff_not] at q
              exact ⟨e, q.1, q.2⟩
          have gOf : ∀ b o, b ≠ a → b ≠ T → s6.heap.get? b = some o → G.get? b = some o := fun b o h1 h2 e => by
            rw [g1 b (by simp [h1, h2])]
            exact e
          have I6 : Inv X pins σ' H6 { s6 with heap := G } := J6.less (fun b o e => (gIn b o e).1) gOf ⟨oe, vs, ga, hd⟩ ⟨oT, ts, gT, hdT⟩ na6 nT6 far0 farP
          have B6in : ∀ b o, (PySem.W.hideAll G (frs X.stack)).get? b = some o → s6.heap.get? b = some o := fun b o e => (gIn b o (PySem.W.of_hideAll _ e)).1
          have Bno : ∀ b, (b = a ∨ b = T) → (PySem.W.hideAll G (frs X.stack)).get? b = none := fun b hb => by
            cases q : (PySem.W.hideAll G (frs X.stack)).get? b with
            | none => rfl
            | some o =>
              obtain ⟨_, n1, n2⟩ := gIn b o (PySem.W.of_hideAll _ q)
              rcases hb with z | z
              · exact absurd z n1
              · exact absurd z n2
          have fl6 : HandSPX.FlyingZ (PySem.W.hideAll G (frs X.stack)) (X.env :: X.outer) a (L2N.Zn (.ref c) d) s6.heap := by
            refine ⟨B6in, Bno a (.inl rfl), ?_, oe, vs, T, oT, ts, ga, hz, hd, hv1, Bno T (.inr rfl), hTe, gT, hdT, ht3⟩
            have ff := funFrames_none (B := PySem.W.hideAll G (frs X.stack)) J6.stack fun b hb => PySem.W.hideAll_none _ hb
            rw [← hs]
            exact ff
          unfold PySem.passOn
          refine wpAny_bind (wpAny_field ga hd hv1 ?_)
          rw [if_neg (show ¬ ((Value.ref T == Value.none) = true) from by simp)]
          have goOn : wpAny (model X.prog X.w) X.A (setFlight (.ref a) X.env.frame) (fun _ s7 => wpAny (model X.prog X.w) X.A (throw (.ref a) : Sem Flow) (SP X pins D) X.xe s7) X.xe s6 := by
            rw [hf]
            refine HandSPX.setFlight_upZ fl6 fun h7 hh7 up7 => wpAny_throw (tk _ _ ?_)
            refine ⟨a, PySem.W.hideAll G (frs X.stack), { s6 with heap := G }, pins, σ', H6, .ref c, d, rfl, I6, fun b o e hb => PySem.W.hideAll_get _ e hb, ?_, .inr (.inr (by rw [← hs] at hh7; exact hh7)), na6, rfl, J6.bare, q6⟩
            exact Heap.UpToSlots.trans (Heap.UpToSlots.of_keeps fun b o e => (gIn b o e).1) up7
          first
            | exact wpAny_bind (wpAny_pure (wpAny_bind goOn))
            | exact wpAny_bind goOn
    -- the traceback
    unfold tracebackOf
    refine wpAny_bind (wpAny_field he3 hd hv1 ?_)
    have hs1 : 1 < ts.size := by
      have := (Array.getElem?_eq_some_iff.mp ht3).1
      omega
    obtain ⟨t1, ht1⟩ : ∃ t1, ts[1]? = some t1 := ⟨ts[1], Array.getElem?_eq_getElem hs1⟩
    refine wpAny_bind (wpAny_field hT hdT ht1 ?_)
    by_cases hn : (t1 == Value.none) = true
    · rw [if_pos hn]
      exact wpAny_pure (exitC .non .none rfl (.inl rfl))
    · rw [if_neg hn]
      exact wpAny_pure (exitC (.ref T) (.ref T) rfl (.inr ⟨T, rfl⟩))
  · cases f with
    | next =>
      obtain ⟨σ3, H3, I3, q⟩ := hsp
      have I3' : Inv X pins σ3 H3 s4 := I3.ofTry ok
      refine wpAny_mono (wpAny_call (run_fnRS (us := [.ref x, .none, .none, .none]) (vs := [.ref x, .non, .non, .non]) FX hr noE_pass I3' (.cons rfl (.cons rfl (.cons rfl (.cons rfl .nil)))) q)) (fun v6 s6 ⟨_, H6, I6, _, q6⟩ => ⟨σ3, H6, I6, q6⟩) fun _ _ z => z
    | brk => obtain ⟨_, _, _, q⟩ := hsp; exact False.elim q
    | cont => obtain ⟨_, _, _, q⟩ := hsp; exact False.elim q
    | ret u => obtain ⟨_, _, _, _, _, q⟩ := hsp; exact False.elim q
end
end DX
set_option maxHeartbeats 4000000
/-! DX10: a lambda of one parameter, called with a local name. -/
namespace DX
open PySem PySem.Spec PySem.Calls PyProof.Rows L2 DL DH LamX

/-- what stands at c is a code object of the name q -/
def IsCd (cO : HO) (c : Addr) (q : Str) : Prop := ∀ (P : Program) (w : World) (H : Hp) (h : Heap), ObjOk P w H h c cO → ∃ (oc : Obj) (vs : Array Value) (t : Tok), h.get? c = some oc ∧ oc.data = .fields vs ∧ vs[1]? = some (.str q t)
theorem isCd_code {c : Addr} {q : Str} : IsCd (CodeO c q) c q := fun P w H h ok => by
  obtain ⟨⟨oc, vs, t, h1, h2, h3⟩, _, _⟩ := ok
  exact ⟨oc, vs, t, h1, h2, h3⟩
/-- one parameter, no name of its own beside it: captured ones and globals -/
structure LamS1 (sc scope : Scope) (p : Str) : Prop where
  kind : scope.kind = .function
  co : scope.isCoroutine = false
  gen : scope.isGenerator = false
  own : ∀ y ∈ scope.names, (y.2 = .local → y.1 = p) ∧ y.2 ≠ .cell
  loc : scope.names.lookup p = some .local
  free : ∀ y ∈ scope.names, y.2 = .free → sc.names.lookup y.1 = some .cell ∨ sc.names.lookup y.1 = some .free
def lamSB1 (sc scope : Scope) (p : Str) : Bool :=
  decide (scope.kind = .function) && (!scope.isCoroutine && (!scope.isGenerator && (decide (scope.names.lookup p = some .local) && scope.names.all fun y => (!decide (y.2 = .local) || decide (y.1 = p)) && (!decide (y.2 = .cell) && (!decide (y.2 = .free) || (decide (sc.names.lookup y.1 = some .cell) || decide (sc.names.lookup y.1 = some .free)))))))
theorem lamS1_by {sc scope : Scope} {p : Str} (h : lamSB1 sc scope p = true) : LamS1 sc scope p := by
  unfold lamSB1 at h
  simp only [Bool.and_eq_true, Bool.or_eq_true, Bool.not_eq_true', decide_eq_true_eq, decide_eq_false_iff_not, List.all_eq_true] at h
  obtain ⟨h1, h2, h3, h5, h4⟩ := h
  refine ⟨h1, h2, h3, fun y hy => ⟨fun e => ?_, (h4 y hy).2.1⟩, h5, fun y hy e => ?_⟩
  · rcases (h4 y hy).1 with z | z
    · exact absurd e z
    · exact z
  · rcases (h4 y hy).2.2 with z | z
    · exact absurd e z
    · exact z
theorem LamS1.has {X : Cx} {scope : Scope} {p : Str} (L : LamS1 X.env.scope scope p) (ok : X.Ok) : ∀ y ∈ scope.names, y.2 = .free → ∃ c, X.env.cells.lookup y.1 = some c := fun y hy e => by
  rcases L.free y hy e with k | k
  · exact ok.has _ (.inl k)
  · exact ok.has _ (.inr k)
/-- the context of the lambda's body -/
def lamCx1 (X : Cx) (A : Around) (outer : List Env) (s : Shared) (H : Hp) (E : XK) (scope : Scope) (f c' : Addr) (p : Str) : Cx where
  prog := X.prog
  w := X.w
  K := X.K
  mg := X.mg
  base := X.base
  A := A.deeper (lamEnv X scope s.heap.objs.size f c')
  N := X.N ++ [p]
  s_0 := s
  H_0 := H
  env := lamEnv X scope s.heap.objs.size f c'
  outer := outer
  stack := lamEnv X scope s.heap.objs.size f c' :: outer
  ex := []
  fn := fun _ => false
  calm := true
  pn := []
  xe := fun e s' => wpAny (model X.prog X.w) (A.deeper (lamEnv X scope s.heap.objs.size f c')) (leaving (lamEnv X scope s.heap.objs.size f c') e) (fun _ s2 => L2N.CX X.prog X.w outer H s E e s2) (fun e' s2 => L2N.CX X.prog X.w outer H s E e' s2) s'
section
variable {X : Cx} {pins : List (Addr × Obj)} {σ : L2.St} {H HZ : Hp} {s s1 : Shared}
theorem lam_start1 {A : Around} {outer : List Env} {E : XK} {scope : Scope} {f c' : Addr} {p : Str} {h₁ : Heap} {tk : Nat} {v : V} {u : Value} (I : Inv X pins σ H s) (L : LamS1 X.env.scope scope p) (hpN : p ∉ X.N) (rv : RelV v u) (e0 : Env0 X.prog X.w X.K X.mg X.base A outer s1 HZ) (hd : A.handled = none)
    (un : Un (frs X.stack) [] H HZ s.heap s1.heap) (hns : h₁.Ns s1.heap.objs.size fun y => ([(p, u)] : List (Str × Value)).reverse.lookup y) (kp : ∀ b o, s1.heap.get? b = some o → h₁.get? b = some o) :
    Inv (lamCx1 X A outer s1 HZ E scope f c' p) [] (σ ++ [some v]) HZ { s1 with heap := h₁, toks := tk } := by
  have hfree := L.has I.ok
  have cm : ∀ {y c}, (cloFrom X.env.cells scope.names []).lookup y = some c → X.env.cells.lookup y = some c := fun {y c} e => by
    rcases cloFrom_mem (PySem.mem_of_lookup e) with hm | ⟨h1, h2⟩
    · cases hm
    · obtain ⟨c1, hc⟩ := hfree _ h1 rfl
      have hc : X.env.cells.lookup y = some c1 := hc
      have e2 : c = c1 := by
        rw [h2, hc] <;> rfl
      rw [e2]
      exact hc
  have look : ∀ {y}, scope.names.lookup y = some .free → ∃ c, (cloFrom X.env.cells scope.names []).lookup y = some c := fun {y} hl => by
    have hy : (y, NameKind.free) ∈ scope.names := PySem.mem_of_lookup hl
    exact mem_lookup (cloFrom_has (cells := X.env.cells) (acc := []) hy)
  have cellK : ∀ {c : Addr} {v : Option Value}, H c = none → s.heap.IsCell c v → h₁.IsCell c v := fun {c v} n ⟨o, ho, hd⟩ => by
    obtain ⟨sl, q⟩ := un.any ho n (by simp)
    exact ⟨_, kp _ _ q, hd⟩
  have noA : ∀ b : Addr, b ∉ (lamCx1 X A outer s1 HZ E scope f c' p).ex := fun b z => absurd (show b ∈ ([] : List Addr) from z) (by simp)
  refine ⟨⟨e0.mod, L.kind, rfl, rfl, Nat.le_refl _, fun y z c e1 e2 => I.ok.inj y z c (cm e1) (cm e2), fun y hy => ?_, fun y c z _ => ?_, fun _ => hd, Around.frames_deeper e0.frames, .inr ⟨rfl, rfl⟩, fun b z => absurd z (noA b), e0.bs, e0.bsz, fun b _ _ => noA b,
      fun b z => absurd z (noA b), e0.funs, e0.frf⟩,
    rfl, e0.bare, Un.kept kp, ⟨_, hns, fun i y v' e1 e2 e3 => ?_⟩, fun y c e => ?_, e0.hok.fresh (Nat.le_refl _), fun y c e => ?_, fun q hq => absurd (show q ∈ ([] : List (Addr × Obj)) ++ [] from hq) (by simp), e0.hok.kept kp, ?_⟩
  · have hy : scope.names.lookup y = some .cell ∨ scope.names.lookup y = some .free := hy
    rcases hy with hy | hy
    · exact absurd rfl (L.own _ (PySem.mem_of_lookup hy)).2
    · exact look hy
  · have z : false = true := z
    cases z
  · have e3 : Vis scope y := e3
    have e1' : (X.N ++ [p])[i]? = some y := e1
    by_cases hi : i < X.N.length
    · rw [List.getElem?_append_left hi] at e1'
      have e2' : σ[i]? = some (some v') := by
        have z := e2
        rw [List.getElem?_append_left (by rw [I.len]; exact hi)] at z
        exact z
      have nyp : y ≠ p := fun z => hpN (by rw [← z]; exact List.mem_of_getElem? e1')
      rcases e3 with k | k | k
      · exact absurd ((L.own _ (PySem.mem_of_lookup k)).1 rfl) nyp
      · exact absurd rfl (L.own _ (PySem.mem_of_lookup k)).2
      · obtain ⟨m, hn, hl⟩ := I.loc
        have hvis : Vis X.env.scope y := (L.free _ (PySem.mem_of_lookup k) rfl).elim (fun k => .inr (.inl k)) (fun k => .inr (.inr k))
        obtain ⟨w', r, q⟩ := hl i y v' e1' e2' hvis
        obtain ⟨c2, h2⟩ := look k
        refine ⟨w', r, .inr ⟨.inr k, c2, h2, ?_⟩⟩
        have c1 := cm h2
        rcases q with ⟨k', _⟩ | ⟨_, c3, e', z⟩
        · have k' : X.env.scope.names.lookup y = some .local := k'
          rcases L.free _ (PySem.mem_of_lookup k) rfl with k2 | k2 <;> rw [show X.env.scope.names.lookup y = _ from k2] at k' <;> cases k'
        · rw [c1] at e'
          cases e'
          exact cellK (I.freeC y _ c1) z
    · have hi' : i = X.N.length := by
        have := (List.getElem?_eq_some_iff.mp e1').1
        rw [List.length_append, List.length_singleton] at this
        omega
      subst hi'
      rw [List.getElem?_append_right (Nat.le_refl _), Nat.sub_self] at e1'
      have ey : p = y := by simpa using e1'
      subst ey
      have e2' : (σ ++ [some v])[X.N.length]? = some (some v') := e2
      rw [← I.len, List.getElem?_append_right (Nat.le_refl _), Nat.sub_self] at e2'
      have ev : v = v' := by simpa using e2'
      subst ev
      refine ⟨u, rv, .inl ⟨L.loc, ?_⟩⟩
      show ([(p, u)] : List (Str × Value)).lookup p = some u
      rw [List.lookup_cons]
      simp
  · obtain ⟨w', z⟩ := I.cell y c (cm e)
    exact ⟨w', cellK (I.freeC y c (cm e)) z⟩
  · obtain ⟨v, o, ho, hd⟩ := I.cell y c (cm e)
    exact un.free c o ho (I.freeC y c (cm e)) (by simp)
  · show (σ ++ [some v]).length = (X.N ++ [p]).length
    rw [List.length_append, List.length_append, I.len]
    rfl
/-- x(y), in the def that got the lambda -/
theorem pe_act1 {CXg : CXT} {Eg : XK} {Ng : List Str} {qg : Str} {sg : Scope} {g f c' : Addr} {cO : HO} {q : Str} {cdg pm ctv : Value} {params : Arguments} {body : Expr} {scope : Scope} {k i j : Nat} {a y p : Str} {pn : List (Addr × Obj)} {xe : Value → Shared → Prop} {W : WX} {E : XK} {tb : TE} {p1 p2 p3 : Pos}
    (I : Inv X pins σ H s) (L : LamS1 X.env.scope scope p) (hpN : p ∉ X.N) (hq : X.env.qual ++ "<lambda>" = q) (hf : s.heap.get? f = some (PySem.W.kla_obj "<lambda>" q params body scope (cloFrom X.env.cells scope.names []) pm c' ctv)) (hfn : H f = none) (hfr : f ∉ frs X.stack)
    (hbind : ∀ u, bindArgs (PySem.W.kla_fn "<lambda>" q params body scope (cloFrom X.env.cells scope.names []) pm (.ref c') ctv) ⟨[u], []⟩ = pure [(p, u)])
    (tk : L2N.Takes ((cxOf CXg X.prog X.w X.K X.mg X.base Ng qg sg g cdg X.A X.stack s H Eg).tr pn xe) W) (hW : ∀ cls d σ' H', E cls d H' → W cls d σ' H') (hr : Room (k + 1) (X.A.deeper (envOfC qg sg s.heap.objs.size g cdg)))
    (hbody : ∀ (A : Around) (outer : List Env) (s : Shared) (H : Hp), Room k (A.deeper (lamEnv X scope s.heap.objs.size f c')) → PE (lamCx1 X A outer s H E scope f c' p) body tb)
    (hN : Ng[i]? = some a) (hv : Vis sg a) (hd : (a == ("__debug__" : Str)) = false) (hcd : (a == ("__classdict__" : Str)) = false)
    (hN2 : Ng[j]? = some y) (hv2 : Vis sg y) (hd2 : (y == ("__debug__" : Str)) = false) (hcd2 : (y == ("__classdict__" : Str)) = false) :
    PE ((cxOf CXg X.prog X.w X.K X.mg X.base Ng qg sg g cdg X.A X.stack s H Eg).tr pn xe) (.Call (.Name a p1) [.Name y p3] [] p2) (fun τ G Q => τ[i]? = some (some (.ref f)) ∧ G c' = some cO ∧ IsCd cO c' q ∧ ∃ v, τ[j]? = some (some v) ∧ tb (σ ++ [some v]) G Q) := by
  subst hq
  refine ⟨fun pz sz τ G Q J0 ⟨hs, hc, hcdo, v, hvs, ht⟩ => ?_⟩
  refine wpAny_Call_Name_kw (thn ((pe_var (pos := p1) (i := i) hN hv hd hcd).run pz sz τ G (fun v G1 => v = .ref f ∧ G1 = G) J0 ⟨.ref f, hs, rfl, rfl⟩) fun u s1 ⟨v0, G1, I1, r1, ev, eG⟩ => ?_)
  subst ev
  rw [eG] at I1
  obtain rfl : u = Value.ref f := r1
  have of1 := I1.base.keep f _ hf hfn hfr (fun z => nomatch (show f ∈ ([] : List Addr) from z))
  refine PySem.W.callWith_F ⟨_, _, _, _, of1⟩ ?_
  show wpAny _ _ (spliced ((false, eval (.Name y p3) _) :: backTo p2 (starEach [] _))) _ _ _
  refine Calls.spliced_cons (thn ((pe_var (pos := p3) (i := j) hN2 hv2 hd2 hcd2).run pz s1 τ G (fun v1 G1 => v1 = v ∧ G1 = G) I1 ⟨v, hvs, rfl, rfl⟩) fun u1 s2 ⟨v1, G2, I2, r2, ev2, eG2⟩ => ?_)
  subst ev2
  rw [eG2] at I2
  have of2 := I2.base.keep f _ hf hfn hfr (fun z => nomatch (show f ∈ ([] : List Addr) from z))
  refine Calls.spliced_nil ⟨⟨_, _, _, _, of2⟩, ?_⟩
  have un : Un (frs X.stack) [] H G s.heap s2.heap := I2.base
  obtain ⟨oc, vs, t, hoc, hdc, hvc⟩ := hcdo _ _ _ _ (I2.hok c' _ hc)
  have rc : codeAny (model X.prog X.w) (X.A.deeper (envOfC qg sg s.heap.objs.size g cdg)) (.call (.ref f) ⟨[u1], []⟩) (CR (L2N.CX X.prog X.w) (envOfC qg sg s.heap.objs.size g cdg :: X.stack) X.prog X.w G s2 Q E) s2 := by
    refine PySem.W.kla_callFunE hr.depth of2 rfl L.co L.gen rfl ⟨c', oc, vs, t, rfl, hoc, hdc, hvc⟩ ?_
    rw [hbind]
    refine wpAny_pure (wpAny_newFunctionEnv (fun y hy => (L.own y hy).2) (fun y hy => ?_) (fun h₁ hns hsb => ⟨I2.nolimit.fresh _ hsb, ?_⟩) L.kind)
    · rw [List.mem_singleton.mp hy]
      exact L.loc
    show codeAny _ _ (.expr body (lamEnv X scope s2.heap.objs.size f c')) _ _
    have kp : ∀ b o, s2.heap.get? b = some o → h₁.get? b = some o := fun b o e => hsb.extBut b o (Nat.ne_of_lt (Heap.lt_size e)) (Heap.get?_push_of_some _ e)
    have J1 := lam_start1 (E := E) (f := f) (c' := c') (tk := s2.toks + ([(p, u1)] : List (Str × Value)).length) I L hpN r2 I2.env0 hr.hd un hns kp
    refine PySem.W.kla_codeExpr (wpAny_mono ((hbody _ _ s2 G (hr.deeper _)).run [] _ _ G Q J1 ht) (fun v s' hq => ?_) fun e s' hq => hq)
    obtain ⟨w', G', J', rv, q⟩ := hq
    exact ⟨w', G', J'.os, J'.bare, J'.base, J'.hok, rv, q⟩
  refine wpAny_call (codeAny_mono rc fun r s' hq => ?_)
  cases r with
  | error e => exact L2N.passes_call tk hW pz τ G s2 e s' I2 hq
  | ok fl =>
    cases fl with
    | ret u => exact I2.after hq
    | next => exact False.elim hq
    | brk => exact False.elim hq
    | cont => exact False.elim hq
end
end DX
set_option maxHeartbeats 4000000
/-! DX11: o.attempt(lambda p: ..). -/
namespace DX
open PySem PySem.Spec PySem.Calls PyProof.Rows L2 DL DH LamX

theorem Slots.app {K : PySem.W.Frag} {W : Wd} {H : Hp} {σd : List Sl} {σ : L2.St} {v : V} {d : D} (s : Slots K W H σd σ) (r : Rep K W H v d) : Slots K W H (σd ++ [.val d]) (σ ++ [some v]) where
  len := by rw [List.length_append, List.length_append, s.len]; rfl
  val := fun i e h => by
    by_cases hi : i < σd.length
    · rw [List.getElem?_append_left hi] at h
      obtain ⟨w, q1, q2⟩ := s.val i e h
      exact ⟨w, by rw [List.getElem?_append_left (by rw [s.len]; exact hi)]; exact q1, q2⟩
    · have hl := (List.getElem?_eq_some_iff.mp h).1
      rw [List.length_append, List.length_singleton] at hl
      have hi' : i = σd.length := by omega
      subst hi'
      rw [List.getElem?_append_right (Nat.le_refl _), Nat.sub_self] at h
      have e1 : d = e := by simpa using h
      subst e1
      exact ⟨v, by rw [← s.len, List.getElem?_append_right (Nat.le_refl _), Nat.sub_self]; rfl, r⟩
/-- a lambda made: the mirror mk; R: what more is known of the world -/
structure DLam (X : Cx) (R : Wd → Hp → Prop) (mk : M Unit) (q : Str) (params : Arguments) (body : Expr) (scope : Scope) (lpos : Pos) : Prop where
  run : ∀ {pins : List (Addr × Obj)} {σ : L2.St} {H : Hp} {s : Shared} {W : Wd} {st : Store} {E : XK} {kk : Unit → Wd → Hp → Store → Prop} {Q : Value → Shared → Prop} {E' : Value → Shared → Prop}, Inv X pins σ H s → Holds X.K W H st → R W H → After X.K W H E (mk st) kk →
    (∀ (f c' : Addr) (cO : HO) (pm ctv : Value) (H1 : Hp) (s' : Shared) (W1 : Wd) (st1 : Store), Inv X pins σ H1 s' → Ext W W1 H H1 → Holds X.K W1 H1 st1 → kk () W1 H1 st1 →
      s'.heap.get? f = some (PySem.W.kla_obj "<lambda>" q params body scope (cloFrom X.env.cells scope.names []) pm c' ctv) → H1 f = none → f ∉ frs X.stack → H1 c' = some cO → IsCd cO c' q → ¬ W1.U c' → Q (.ref f) s') →
    wpAny (model X.prog X.w) X.A (eval (.Lambda params body scope lpos) X.env) Q E' s
abbrev noR : Wd → Hp → Prop := fun _ _ => True
/-- a lambda of a def whose table is a cell of the store from the start -/
theorem dlam_tab {X : Cx} {j : Nat} {x q : Str} {params : Arguments} {body : Expr} {scope : Scope} {lpos : Pos} (TB : TabB X.base X.mg (He.cT X.K (x, none)).1 (He.cT X.K (x, none)).2) (hcode : X.env.code = .ref (He.cT X.K (x, none)).1) (hq : X.env.qual ++ "<lambda>" = q) (hdef : defaultsOf params X.env = ([], []))
    (hfree : ∀ ok : X.Ok, ∀ y ∈ scope.names, y.2 = .free → ∃ c, X.env.cells.lookup y.1 = some c) : DLam X noR (tabC j x q) q params body scope lpos := by
  refine ⟨fun {pins σ H s W st E kk Q E'} I hh _ h hQ => ?_⟩
  rcases tabC_cases j x q st with ⟨hj, e⟩ | e
  · rw [e] at h
    obtain ⟨P, hP⟩ : ∃ P, W.mu[j]? = some P := ⟨_, List.getElem?_eq_getElem (by rw [hh.len]; exact (List.getElem?_eq_some_iff.mp hj).1)⟩
    obtain ⟨u, ea, ps, hp, ht, hcs⟩ := hh.cell j _ P hj hP
    subst ea
    refine lam_mk I TB hcode hq hp ht (fun pos cv hc => let ⟨c, q1, _, q3⟩ := hcs pos cv hc; ⟨c, q1, q3⟩) hdef (hfree I.ok) fun f c' pm' ctv H1 s' I1 gr hf hfn hfr hco => ?_
    obtain ⟨e1, hh1⟩ := Holds.grown hh hj hP hp gr
    refine hQ f c' _ pm' ctv H1 s' W st I1 e1 hh1 (h W H1 e1 hh1) hf hfn hfr hco isCd_code ?_
    rcases gr with ⟨_, pos, cv, hc, ec⟩ | ⟨_, nc, _⟩
    · obtain ⟨c0, q1, q2, _⟩ := hcs pos cv hc
      rw [ec] at q1
      cases q1
      exact q2
    · exact hh.fresh nc
  · rw [e] at h
    exact h.elim

/-! ### attempt -/
def withM (mX : Str → M D) (mN : M D) (mb : M D) : M D := fun st => match mb st with
  | .ok d st' => (nox mN >>= fun _ => pure d) st'
  | .exc e st' => if e.fs.isEmpty = true then (match mX e.cls st' with
    | .ok .non st2 => .exc e st2
    | _ => .stuck) else .stuck
  | .stuck => .stuck
def attM (mT mE mX : List D → M D) (mb : D → M D) (x : D) : M D := makeM "Trial" mT [x] >>= fun t => insM "Trial" t >>= fun _ => nox (mE [t]) >>= fun k => withM (fun c => mX [t, .fn c, .non, .non]) (mX [t, .non, .non, .non]) (mb k)
abbrev attB (p1 p2 p3 p4 p5 p6 p7 p8 p9 p10 p11 p12 : Pos) : List Stmt :=
  [.With [⟨.Call (.Name "Trial" p1) [.Name "self" p2] [] p3, some (.Name "desk" p4)⟩] [.Assign [.Name "found" p5] (.Call (.Name "action" p6) [.Name "desk" p7] [] p8) p9] p10, .Return (some (.Name "found" p11)) p12]
structure AttD (P : Program) (w : World) (K : PySem.W.Frag) (mg : Str → Option Value) (base : Heap) (k : Nat) (mT mE mX : List D → M D) : Prop where
  mak : MakD P w K mg base k "Trial" mT
  wc : WithC P w K mg base k (He.ga K "Trial") (SpR K mE) (SpR K mX) (SpD K 4 mX)
  ind : ∀ (t c : D) (a : Addr) (tv : D), mX [t, c, .adr a, tv] = mX [t, c, .non, .non]
section
variable {X : Cx} {E : DL.St → XK} {σd : List Sl} {o : Expr} {mo : M D} {mkl : M Unit} {mb : D → M D} {mT mE mX : List D → M D} {R : Wd → Hp → Prop} {apos pos lpos p1 p2 p3 p4 p5 p6 p7 p8 p9 p10 p11 p12 : Pos} {k kA : Nat} {p q : Str} {g : Addr} {fdg : FuncData} {pg params : Arguments} {sg scope : Scope} {body : Expr}
theorem pe_attempt {pl : Sem Bool} (c : Cls X.K (He.ga X.K "Desk")) (hm : Meth X.K (He.ga X.K "Desk") "attempt" g) (G : FunD X.K "attempt" "Desk.attempt" pg (attB p1 p2 p3 p4 p5 p6 p7 p8 p9 p10 p11 p12) sg [] [] g fdg) (Sg : FnScope ["self", "action", "desk", "found"] ["self", "action"] sg)
    (hbg : ∀ (kV doc pm : Value) (an : Option Addr) (cdv ct : Value) (us : List Value), us.length = 2 → bindArgs (PySem.W.fnOf "attempt" "Desk.attempt" pg (attB p1 p2 p3 p4 p5 p6 p7 p8 p9 p10 p11 p12) sg .none kV doc pm an cdv ct) ⟨us, []⟩ = pure ((["self", "action"] : List Str).zip us))
    (hs1 : sg.names.lookup ("Trial" : Str) = some .globalImplicit) (hv0 : sg.names.lookup ("self" : Str) = some .local) (hv1 : sg.names.lookup ("action" : Str) = some .local) (hv2 : sg.names.lookup ("desk" : Str) = some .local) (hv3 : sg.names.lookup ("found" : Str) = some .local)
    (AD : AttD X.prog X.w X.K X.mg X.base kA mT mE mX) (hr : Room (k + 2) X.A) (hkA : kA ≤ k) (DLm : DLam X R mkl q params body scope lpos) (L : LamS1 X.env.scope scope p) (hpN : p ∉ X.N) (hq : X.env.qual ++ "<lambda>" = q)
    (hbind : ∀ (q : Str) (cl : List (Str × Addr)) (pm cv ctv u : Value), bindArgs (PySem.W.kla_fn "<lambda>" q params body scope cl pm cv ctv) ⟨[u], []⟩ = pure [(p, u)])
    (hbody : ∀ (A : Around) (outer : List Env) (s : Shared) (H : Hp) (E : XK) (f c' : Addr) (d : D), Room k (A.deeper (lamEnv X scope s.heap.objs.size f c')) → DE (lamCx1 X A outer s H E scope f c' p) (fun _ => E) (σd ++ [.val d]) body (mb d))
    (hx : ∀ σ, PassesAt (L2N.CX X.prog X.w) X σ (E σ)) (hRo : ∀ W W' H H', Ext W W' H H' → R W H → R W' H') (ho : DE X E σd o mo)
    (hst : starEach [.Lambda params body scope lpos] X.env = (false, eval (.Lambda params body scope lpos) X.env) :: starEach [] X.env)
    (ht : eval (.Call (.Attribute o "attempt" apos) [.Lambda params body scope lpos] [] pos) X.env = (do
      let ov ← eval o X.env
      standAt apos.atName
      let (f, first) ← holding [ov] (getMethod ov "attempt" pl)
      callWith pos f first (backTo pos (starEach [.Lambda params body scope lpos] X.env)) (backToKw pos (keywordEach [] X.env)))) :
    PE X (.Call (.Attribute o "attempt" apos) [.Lambda params body scope lpos] [] pos) (fun σ H Q => ∃ (W : Wd) (st : Store), Holds X.K W H st ∧ Slots X.K W H σd σ ∧ R W H ∧
      Fin X.K W H (E σ) ((mo >>= fun x => recv "Desk" "attempt" x >>= fun _ => mkl >>= fun _ => attM mT mE mX mb x) st) Q) := by
  refine ⟨fun pins s σ H Q I ⟨W, st, hh, hs, hR, h⟩ => ?_⟩
  refine PySem.W.methodCall_KW (pl := pl) (thn (ho.pe.run pins s σ H _ I (tD_run hh hs h fun d v W1 H1 st1 e1 hh1 hs1 r1 h1 => (⟨d, W1, st1, hh1, hs1, r1, hRo _ _ _ _ e1 hR, h1⟩ : ∃ (d : D) (W1 : Wd) (st1 : Store), Holds X.K W1 H1 st1 ∧ Slots X.K W1 H1 σd σ ∧ Rep X.K W1 H1 v d ∧ R W1 H1 ∧
      Fin X.K W1 H1 (E σ) ((recv "Desk" "attempt" d >>= fun _ => mkl >>= fun _ => attM mT mE mX mb d) st1) Q))) fun u s1 ⟨x, H1, I1, rx, d, W1, st1, hh1, hsl1, r1, hR1, h1⟩ => ?_) ht
  obtain ⟨a, dx, vfs, rfl, ea, l, h2⟩ := recv_run hh1 r1 h1
  obtain rfl : u = Value.ref a := rx
  refine getmeth_ok I1 ea c hm l ?_
  refine PySem.W.callWith_K (first := [.ref a]) (h₀ := X.base) I.ok.mod.kin hm.kp ?_ hst rfl
  rw [hst]
  show wpAny _ _ (spliced ((false, eval (.Lambda params body scope lpos) X.env) :: backTo pos (starEach [] X.env))) _ _ s1
  refine Calls.spliced_cons (DLm.run I1 hh1 hR1 (After.bind h2) fun f c' cO pm' ctv H2 s2 W2 st2 I2 e2 hh2 h3 hf hfn hfr hco hcdo hnu => ?_)
  refine Calls.spliced_nil ⟨I2.kIn, ?_⟩
  have hs2 : Slots X.K W2 H2 σd σ := hsl1.ext e2
  have rd : Rep X.K W2 H2 (.ref a) d := r1.ext e2
  obtain ⟨oc, od, dV, kV, doc, pm, an, cdv, ct, osl, rfl, lk, hcd, hD, _⟩ := G.ex
  have hb1 : Binds X.K _ ["self", "action"] [] := G.bindsN hbg
  have rc : codeAny (model X.prog X.w) X.A (.call (.ref g) ⟨[.ref a, .ref f], []⟩) (CR (L2N.CX X.prog X.w) X.stack X.prog X.w H2 s2 Q (E σ)) s2 := by
    refine run_ofS (N := ["self", "action", "desk", "found"]) (ps := ["self", "action"]) (us := [.ref a, .ref f]) (vs := [.ref a, .ref f]) lk hcd Sg hr I2.env0 (hb1 s2 [.ref a, .ref f] I2.kIn rfl) (.cons rfl (.cons rfl .nil)) rfl fun hr' => ?_
    let Z := cxOf (L2N.CX X.prog X.w) X.prog X.w X.K X.mg X.base ["self", "action", "desk", "found"] "Desk.attempt" sg g cdv X.A X.stack s2 H2 (E σ)
    have tk0 : L2N.Takes Z (fun cl d _ H => E σ cl d H) := L2N.takes_of rfl rfl rfl rfl
    have nd : (["self", "action", "desk", "found"] : List Str).Nodup := by decide
    let σz : List Sl := [.val d, .val (.adr f), .none, .none]
    let tb : WX → TS := fun Wx D τ G => ∃ Ech : XK, (∀ cl dd σ' H', Ech cl dd H' → Wx cl dd σ' H') ∧ (τ[1]? = some (some (.ref f)) ∧ G c' = some cO ∧ IsCd cO c' q ∧ ∃ v, τ[2]? = some (some v) ∧ ∃ dk, tD X.K (σd ++ [.val dk]) (fun _ => Ech) (mb dk) (σ ++ [some v]) G fun r G' => D.nx (τ.set 3 (some r)) G')
    have hm0 : DE Z (fun _ => E σ) σz (.Call (.Name "Trial" p1) [.Name "self" p2] [] p3) ((pure d >>= fun x => pure [] >>= fun xs => pure (x :: xs)) >>= makeM "Trial" mT) :=
      de_make (X := Z) AD.mak hr' (by omega) hs1 (passF tk0) (da_cons (de_var 0 rfl rfl (.inl hv0) (by rfl) (by rfl)) da_nil rfl) (by rfl) rfl rfl
    refine ⟨_, pss_cons (ps_with (X := Z) (C := He.ga X.K "Trial") (i := 2) (tb := tb) rfl rfl rfl tk0 AD.wc (hr'.mono (by omega)) nd rfl (.inl hv2) (.inr hv2) hm0.pe (fun Wx pn xe tk _ => ?_)) (pss_one (ps_ret (pe_var (X := Z) (i := 3) rfl (.inl hv3) (by rfl) (by rfl)))), ?_⟩
    · refine ⟨fun pz sz τ G Dn J0 ⟨Ech, hW, g1⟩ => ?_⟩
      exact (pss_one (ps_set (i := 3) nd rfl (.inl hv3) (pe_act1 (i := 1) (j := 2) I2 L hpN hq hf hfn hfr (hbind _ _ _ _ _) tk hW hr' (fun A outer s H hr2 => pe_ex fun dk => (hbody A outer s H Ech f c' dk hr2).pe) rfl (.inl hv1) (by rfl) (by rfl) rfl (.inl hv2) (by rfl) (by rfl)) rfl (.inr hv3))).run pz sz τ G Dn J0 g1
    · have em : ((pure d >>= fun x => pure [] >>= fun xs => pure (x :: xs)) >>= makeM "Trial" mT) = makeM "Trial" mT [d] := rfl
      have h3' : Fin X.K W2 H2 (E σ) ((((pure d >>= fun x => pure [] >>= fun xs => pure (x :: xs)) >>= makeM "Trial" mT) >>= fun t => insM "Trial" t >>= fun _ => nox (mE [t]) >>= fun k => withM (fun c => mX [t, .fn c, .non, .non]) (mX [t, .non, .non, .non]) (mb k)) st2) Q := by
        rw [em]
        exact h3
      have hsz : Slots X.K W2 H2 σz (L2.start ["self", "action", "desk", "found"] [.ref a, .ref f]) := Slots.start (N := ["self", "action", "desk", "found"]) (ds := [d, .adr f]) ⟨_, _, rfl, rd, _, _, rfl, rfl, rfl⟩
      refine tD_run (E := fun _ => E σ) hh2 hsz h3' fun t v1 W3 H3 st3 e3 hh3 _ r3 h4 => ?_
      obtain ⟨i, y, dy, fs, vfy, rfl, rfl, q1, q2, u, ey, hfs, h5⟩ := insM_run hh3 r3 h4
      refine ⟨y, dy, vfy, rfl, ey, W3, st3, [.ref i], hh3, ⟨_, [], rfl, r3, rfl⟩, After.nox ((After.bind h5).mono fun dk W4 H4 st4 _ e4 hh4 h6 => ?_) _⟩
      intro v rv
      have e24 : Ext W2 W4 H2 H4 := e3.trans e4
      have hc4 : H4 c' = some cO := e24.keep c' _ (fun z => absurd z hnu) hco
      refine ⟨_, fun _ _ _ _ z => z, rfl, hc4, hcdo, v, rfl, dk, W4, st4, hh4, DX.Slots.app (hs2.ext e24) rv, ?_⟩
      have r4 : Rep X.K W4 H4 (.ref y) (.ref i) := r3.ext e4
      unfold withM at h6
      cases hm1 : mb dk st4 with
      | ok r st5 =>
        rw [hm1] at h6
        intro W5 H5 e5 hh5 v6 rv6
        have h7 : After X.K W4 H4 (E σ) ((nox (mX [.ref i, .non, .non, .non]) >>= fun _ => pure r) st5) (fun d W' H' _ => ∀ v, Rep X.K W' H' v d → Q v H') := h6
        refine ⟨W5, st5, [.ref i, .non, .non, .non], hh5, ⟨_, _, rfl, r4.ext e5, _, _, rfl, rfl, _, _, rfl, rfl, _, _, rfl, rfl, rfl⟩, After.nox ((After.bind (h7.shift e5)).mono fun d6 W6 H6 st6 _ e6 hh6 h8 => ?_) _⟩
        intro v7 rv7
        exact ⟨v6, rfl, After.pure' h8 hh6 v6 (rv6.ext e6)⟩
      | exc ee st5 =>
        rw [hm1] at h6
        have h7 : After X.K W4 H4 (E σ) (if ee.fs.isEmpty = true then (match mX [.ref i, .fn ee.cls, .non, .non] st5 with
          | .ok .non st2 => DL.R.exc ee st2
          | _ => .stuck) else .stuck : DL.R D) (fun d W' H' _ => ∀ v, Rep X.K W' H' v d → Q v H') := h6
        by_cases hfe : ee.fs.isEmpty = true
        · rw [if_pos hfe] at h7
          have hfs0 : ee.fs = [] := by simpa using hfe
          intro W5 H5 Cv dd e5 hh5 hx5
          have ed : dd = none := by
            rcases hx5.2 with z | z
            · exact z.2
            · exact absurd hfs0 z.1
          refine ⟨He.ga X.K ee.cls, hx5.1, fun aa tv htv => ?_⟩
          have htd : ∃ td : D, Rep X.K W5 H5 tv td := by
            rcases htv with rfl | ⟨T, rfl⟩
            · exact ⟨.non, rfl⟩
            · exact ⟨.adr T, rfl⟩
          obtain ⟨td, rtd⟩ := htd
          refine ⟨rfl, W5, st5, [.ref i, .fn ee.cls, .adr aa, td], hh5, ⟨_, _, rfl, r4.ext e5, _, _, rfl, rfl, _, _, rfl, rfl, _, _, rfl, rtd, rfl⟩, ?_⟩
          rw [AD.ind]
          cases hm2 : mX [.ref i, .fn ee.cls, .non, .non] st5 with
          | ok r st6 =>
            rw [hm2] at h7
            cases r with
            | non =>
              intro W6 H6 e6 hh6 v7 rv7
              exact ⟨rv7, h7 W6 H6 Cv dd (e5.trans e6) hh6 ⟨hx5.1, .inl ⟨hfs0, ed⟩⟩⟩
            | _ => exact h7.elim
          | exc e2 st6 =>
            rw [hm2] at h7
            exact h7.elim
          | stuck =>
            rw [hm2] at h7
            exact h7.elim
        · rw [if_neg hfe] at h7
          exact h7.elim
      | stuck =>
        rw [hm1] at h6
        exact h6.elim
  refine wpAny_call (codeAny_mono rc fun r s3 hq => ?_)
  cases r with
  | error e => exact hx σ pins H2 s2 e s3 I2 hq
  | ok fl =>
    cases fl with
    | ret u => exact I2.after hq
    | next => exact False.elim hq
    | brk => exact False.elim hq
    | cont => exact False.elim hq
end
end DX
set_option maxHeartbeats 4000000
/-! DX12: _law_word(lambda: ..). -/
namespace DX
open PySem PySem.Spec PySem.Calls PyProof.Rows L2 DL DH LamX

/-- a lambda made; RP: what is known behind it -/
structure DLamG (X : Cx) {α : Type} (mk : M α) (RP : α → Addr → Wd → Hp → Prop) (q : Str) (params : Arguments) (body : Expr) (scope : Scope) (lpos : Pos) : Prop where
  run : ∀ {pins : List (Addr × Obj)} {σ : L2.St} {H : Hp} {s : Shared} {W : Wd} {st : Store} {E : XK} {kk : α → Wd → Hp → Store → Prop} {Q : Value → Shared → Prop} {E' : Value → Shared → Prop}, Inv X pins σ H s → Holds X.K W H st → After X.K W H E (mk st) kk →
    (∀ (f c' : Addr) (cO : HO) (pm ctv : Value) (H1 : Hp) (s' : Shared) (W1 : Wd) (st1 : Store) (a : α), Inv X pins σ H1 s' → Ext W W1 H H1 → Holds X.K W1 H1 st1 → kk a W1 H1 st1 →
      s'.heap.get? f = some (PySem.W.kla_obj "<lambda>" q params body scope (cloFrom X.env.cells scope.names []) pm c' ctv) → H1 f = none → f ∉ frs X.stack → H1 c' = some cO → IsCd cO c' q → RP a c' W1 H1 → Q (.ref f) s') →
    wpAny (model X.prog X.w) X.A (eval (.Lambda params body scope lpos) X.env) Q E' s
theorem DLam.g {X : Cx} {mk : M Unit} {q : Str} {params : Arguments} {body : Expr} {scope : Scope} {lpos : Pos} (L : DLam X noR mk q params body scope lpos) : DLamG X mk (fun _ _ _ _ => True) q params body scope lpos :=
  ⟨fun {pins σ H s W st E kk Q E'} I hh h hQ => L.run I hh True.intro h fun f c' cO pm ctv H1 s' W1 st1 I1 e1 hh1 h1 hf hfn hfr hco hcd _ => hQ f c' cO pm ctv H1 s' W1 st1 () I1 e1 hh1 h1 hf hfn hfr hco hcd True.intro⟩
section
variable {X : Cx} {pins : List (Addr × Obj)} {σ : L2.St} {H : Hp} {s : Shared}
/-- x(), in the def that got the lambda -/
theorem pe_actG {CXg : CXT} {Eg : XK} {Ng : List Str} {qg : Str} {sg : Scope} {g f c' : Addr} {cO : HO} {q : Str} {cdg pm ctv : Value} {params : Arguments} {body : Expr} {scope : Scope} {k i : Nat} {a : Str} {pn : List (Addr × Obj)} {xe : Value → Shared → Prop} {W : WX} {E : XK} {tb : TE} {p1 p2 : Pos}
    (I : Inv X pins σ H s) (L : LamS X.env.scope scope) (hq : X.env.qual ++ "<lambda>" = q) (hf : s.heap.get? f = some (PySem.W.kla_obj "<lambda>" q params body scope (cloFrom X.env.cells scope.names []) pm c' ctv)) (hfn : H f = none) (hfr : f ∉ frs X.stack)
    (hbind : bindArgs (PySem.W.kla_fn "<lambda>" q params body scope (cloFrom X.env.cells scope.names []) pm (.ref c') ctv) ⟨[], []⟩ = pure [])
    (tk : L2N.Takes ((cxOf CXg X.prog X.w X.K X.mg X.base Ng qg sg g cdg X.A X.stack s H Eg).tr pn xe) W) (hW : ∀ cls d σ' H', E cls d H' → W cls d σ' H') (hr : Room (k + 1) (X.A.deeper (envOfC qg sg s.heap.objs.size g cdg)))
    (hbody : ∀ (A : Around) (outer : List Env) (s : Shared) (H : Hp), Room k (A.deeper (lamEnv X scope s.heap.objs.size f c')) → PE (lamN X A outer s H E scope f c') body tb)
    (hN : Ng[i]? = some a) (hv : Vis sg a) (hd : (a == ("__debug__" : Str)) = false) (hcd : (a == ("__classdict__" : Str)) = false) :
    PE ((cxOf CXg X.prog X.w X.K X.mg X.base Ng qg sg g cdg X.A X.stack s H Eg).tr pn xe) (.Call (.Name a p1) [] [] p2) (fun τ G Q => τ[i]? = some (some (.ref f)) ∧ G c' = some cO ∧ IsCd cO c' q ∧ tb σ G Q) := by
  subst hq
  refine ⟨fun pz sz τ G Q J0 ⟨hs, hc, hcd', ht⟩ => ?_⟩
  refine wpAny_Call_Name_kw (thn ((pe_var (pos := p1) (i := i) hN hv hd hcd).run pz sz τ G (fun v G1 => v = .ref f ∧ G1 = G) J0 ⟨.ref f, hs, rfl, rfl⟩) fun u s1 ⟨v, G1, I1, r1, ev, eG⟩ => ?_)
  subst ev
  rw [eG] at I1
  obtain rfl : u = Value.ref f := r1
  have of1 := I1.base.keep f _ hf hfn hfr (fun z => nomatch (show f ∈ ([] : List Addr) from z))
  refine PySem.W.callWith_F0 ⟨_, _, _, _, of1⟩ ?_
  have un : Un (frs X.stack) [] H G s.heap s1.heap := I1.base
  obtain ⟨oc, vs, t, hoc, hdc, hvc⟩ := hcd' _ _ _ _ (I1.hok c' _ hc)
  have rc : codeAny (model X.prog X.w) (X.A.deeper (envOfC qg sg s.heap.objs.size g cdg)) (.call (.ref f) ⟨[], []⟩) (CR (L2N.CX X.prog X.w) (envOfC qg sg s.heap.objs.size g cdg :: X.stack) X.prog X.w G s1 Q E) s1 := by
    refine PySem.W.kla_callFunE hr.depth of1 rfl L.co L.gen rfl ⟨c', oc, vs, t, rfl, hoc, hdc, hvc⟩ ?_
    rw [hbind]
    refine wpAny_pure (wpAny_newFunctionEnv (fun y hy => (L.own y hy).2) (fun y hy => absurd hy (by simp)) (fun h₁ hns hsb => ⟨I1.nolimit.fresh _ hsb, ?_⟩) L.kind)
    show codeAny _ _ (.expr body (lamEnv X scope s1.heap.objs.size f c')) _ _
    have kp : ∀ b o, s1.heap.get? b = some o → h₁.get? b = some o := fun b o e => hsb.extBut b o (Nat.ne_of_lt (Heap.lt_size e)) (Heap.get?_push_of_some _ e)
    have J1 := lam_start2 (E := E) (f := f) (c' := c') (tk := s1.toks + ([] : List (Str × Value)).length) I L I1.env0 hr.hd un hns kp
    have J : Inv (lamN X (X.A.deeper (envOfC qg sg s.heap.objs.size g cdg)) (envOfC qg sg s.heap.objs.size g cdg :: X.stack) s1 G E scope f c') [] σ G { s1 with heap := h₁, toks := s1.toks + ([] : List (Str × Value)).length } := J1.toTry _
    refine PySem.W.kla_codeExpr (wpAny_mono ((hbody _ _ s1 G (hr.deeper _)).run [] _ _ G Q J ht) (fun v s' hq => ?_) fun e s' hq => hq)
    obtain ⟨w', G', J', rv, q⟩ := hq
    exact ⟨w', G', J'.os, J'.bare, J'.base, J'.hok, rv, q⟩
  refine wpAny_call (codeAny_mono rc fun r s' hq => ?_)
  cases r with
  | error e => exact L2N.passes_call tk hW pz τ G s1 e s' I1 hq
  | ok fl =>
    cases fl with
    | ret u => exact I1.after hq
    | next => exact False.elim hq
    | brk => exact False.elim hq
    | cont => exact False.elim hq
end
def sNone : List Nat := [110, 111, 110, 101]
def sPlace : List Nat := [112, 108, 97, 99, 101]
def sUndo : List Nat := [117, 110, 100, 111]
def wordM (mb : M D) : M D := fun st => match mb st with
  | .ok _ st' => .ok (.str sNone) st'
  | .exc e st' => if (e.cls == "InvalidPlace") = true then .ok (.str sPlace) st' else if (e.cls == "NothingToUndo") = true then .ok (.str sUndo) st' else .stuck
  | .stuck => .stuck
abbrev wordB (n1 n2 n3 n4 : Nat) (p1 p2 p3 p4 p5 p6 p7 p8 p9 p10 p11 p12 p13 p14 p15 p16 p17 p18 p19 p20 p21 p22 p23 p24 : Pos) : List Stmt :=
  [.Assign [.Name "word" p1] (.Constant (.str "none") n1 p2) p3,
   .Try [.Expr (.Call (.Name "call" p4) [] [] p5) p6]
     [.ExceptHandler (some (.Name "InvalidPlace" p7)) none [.Assign [.Name "word" p8] (.Constant (.str "place") n2 p9) p10] p11,
      .ExceptHandler (some (.Name "NothingToUndo" p12)) none [.Assign [.Name "word" p13] (.Constant (.str "undo") n3 p14) p15] p16,
      .ExceptHandler (some (.Name "PushError" p17)) none [.Assign [.Name "word" p18] (.Constant (.str "else") n4 p19) p20] p21] [] [] p22,
   .Return (some (.Name "word" p23)) p24]
def tsW (x : Str) : Addr → Value → Option Addr → TS := fun _ _ _ D τ G => τ.length = 2 → D.nx (τ.set 1 (some (.str x))) G
structure WordE (K : PySem.W.Frag) (mg : Str → Option Value) : Prop where
  m1 : mg "InvalidPlace" = some (.ref (He.ga K "InvalidPlace"))
  m2 : mg "NothingToUndo" = some (.ref (He.ga K "NothingToUndo"))
  m3 : mg "PushError" = some (.ref (He.ga K "PushError"))
  e11 : PySem.W.exmOne K (.ref (He.ga K "InvalidPlace")) (.ref (He.ga K "InvalidPlace")) = some true
  e21 : PySem.W.exmOne K (.ref (He.ga K "NothingToUndo")) (.ref (He.ga K "InvalidPlace")) = some false
  e22 : PySem.W.exmOne K (.ref (He.ga K "NothingToUndo")) (.ref (He.ga K "NothingToUndo")) = some true
section
variable {X : Cx} {E : DL.St → XK} {σd : List Sl} {α : Type} {mk : M α} {mb : α → M D} {RP : α → Addr → Wd → Hp → Prop} {n1 n2 n3 n4 : Nat} {pp lpos pos p1 p2 p3 p4 p5 p6 p7 p8 p9 p10 p11 p12 p13 p14 p15 p16 p17 p18 p19 p20 p21 p22 p23 p24 : Pos} {k : Nat} {q : Str} {g : Addr} {fdg : FuncData} {pg params : Arguments} {sg scope : Scope} {body : Expr}
theorem de_word (G : FunD X.K "_law_word" "_law_word" pg (wordB n1 n2 n3 n4 p1 p2 p3 p4 p5 p6 p7 p8 p9 p10 p11 p12 p13 p14 p15 p16 p17 p18 p19 p20 p21 p22 p23 p24) sg [] [] g fdg) (hm : X.mg "_law_word" = some (.ref g)) (hgl : Gl X "_law_word") (Sg : FnScope ["call", "word"] ["call"] sg)
    (hbg : ∀ (kV doc pm : Value) (an : Option Addr) (cdv ct : Value) (us : List Value), us.length = 1 → bindArgs (PySem.W.fnOf "_law_word" "_law_word" pg (wordB n1 n2 n3 n4 p1 p2 p3 p4 p5 p6 p7 p8 p9 p10 p11 p12 p13 p14 p15 p16 p17 p18 p19 p20 p21 p22 p23 p24) sg .none kV doc pm an cdv ct) ⟨us, []⟩ = pure ((["call"] : List Str).zip us))
    (hv0 : sg.names.lookup ("call" : Str) = some .local) (hv1 : sg.names.lookup ("word" : Str) = some .local) (hs1 : sg.names.lookup ("InvalidPlace" : Str) = some .globalImplicit) (hs2 : sg.names.lookup ("NothingToUndo" : Str) = some .globalImplicit) (hs3 : sg.names.lookup ("PushError" : Str) = some .globalImplicit) (WE : WordE X.K X.mg)
    (DLm : DLamG X mk RP q params body scope lpos) (hr : Room (k + 2) X.A) (L : LamS X.env.scope scope) (hq : X.env.qual ++ "<lambda>" = q)
    (hbind : ∀ (q : Str) (cl : List (Str × Addr)) (pm cv ctv : Value), bindArgs (PySem.W.kla_fn "<lambda>" q params body scope cl pm cv ctv) ⟨[], []⟩ = pure [])
    (hbody : ∀ (A : Around) (outer : List Env) (s : Shared) (H : Hp) (E : XK) (f c' : Addr) (a : α), Room k (A.deeper (lamEnv X scope s.heap.objs.size f c')) → PE (lamN X A outer s H E scope f c') body (fun σ G Q => ∃ (W : Wd) (st : Store), Holds X.K W G st ∧ Slots X.K W G σd σ ∧ RP a c' W G ∧ Fin X.K W G E (mb a st) Q))
    (hst : starEach [.Lambda params body scope lpos] X.env = (false, eval (.Lambda params body scope lpos) X.env) :: starEach [] X.env) :
    DE X E σd (.Call (.Name "_law_word" pp) [.Lambda params body scope lpos] [] pos) (mk >>= fun a => wordM (mb a)) := by
  refine ⟨⟨fun pins s σ H Q I ⟨W, st, hh, hs, h⟩ => ?_⟩⟩
  obtain ⟨oc, od, dV, kV, doc, pm, an, cdv, ct, osl, rfl, lk, hcd, hD, _⟩ := G.ex
  refine wpAny_Call_Name_kw (ld_glob I hgl hm ?_ (by decide))
  refine PySem.W.callWith_K (h₀ := X.base) I.ok.mod.kin G.kp ?_ hst rfl
  rw [hst]
  show wpAny _ _ (spliced ((false, eval (.Lambda params body scope lpos) X.env) :: backTo pos (starEach [] X.env))) _ _ s
  refine Calls.spliced_cons (DLm.run I hh (After.bind h) fun f c' cO pm' ctv H1 s' W1 st1 al I1 e1 hh1 h1 hf hfn hfr hco hcd' hRP => ?_)
  refine Calls.spliced_nil ⟨I1.kIn, ?_⟩
  have hb1 : Binds X.K _ ["call"] [] := G.bindsN hbg
  have rc : codeAny (model X.prog X.w) X.A (.call (.ref g) ⟨[.ref f], []⟩) (CR (L2N.CX X.prog X.w) X.stack X.prog X.w H1 s' Q (fun _ _ _ => False)) s' := by
    refine run_ofS (N := ["call", "word"]) (ps := ["call"]) (us := [.ref f]) (vs := [.ref f]) lk hcd Sg hr I1.env0 (hb1 s' [.ref f] I1.kIn rfl) (.cons rfl .nil) rfl fun hr' => ?_
    let Z := cxOf (L2N.CX X.prog X.w) X.prog X.w X.K X.mg X.base ["call", "word"] "_law_word" sg g cdv X.A X.stack s' H1 (fun _ _ _ => False)
    have nd : (["call", "word"] : List Str).Nodup := by decide
    have tk0 : L2N.Takes Z (fun cl d _ H => (fun _ _ _ => False : XK) cl d H) := L2N.takes_of rfl rfl rfl rfl
    let tb : WX → TS := fun Wx D τ G => ∃ Ech : XK, (∀ cl d σ' H', Ech cl d H' → Wx cl d σ' H') ∧ τ[0]? = some (some (.ref f)) ∧ G c' = some cO ∧ IsCd cO c' q ∧ ∃ (W2 : Wd) (st2 : Store), Holds X.K W2 G st2 ∧ Slots X.K W2 G σd σ ∧ RP al c' W2 G ∧ Fin X.K W2 G Ech (mb al st2) (fun _ G' => D.nx τ G')
    have hsu : ∀ (x : Str) (n : Nat) (q1 q2 q3 : Pos) (a : Addr) (oe : Obj) (cls : Value) (d : Option Addr) (pn : List (Addr × Obj)), L2N.Zn cls d oe → (∃ vs, oe.data = .fields vs) → PSs (Z.suite a ((a, oe) :: pn)) [.Assign [.Name "word" q1] (.Constant (.str x) n q2) q3] (tsW x a cls d) := fun x n q1 q2 q3 a oe cls d pn hz hvs => by
      refine ⟨fun pz sz τ G Dn J0 hg => ?_⟩
      have hl : τ.length = 2 := J0.len
      exact (pss_one (ps_set (X := Z.suite a ((a, oe) :: pn)) (i := 1) nd rfl (.inl hv1) pe_str rfl (.inr hv1))).run pz sz τ G Dn J0 (hg hl)
    refine ⟨_, pss_cons (ps_set (X := Z) (i := 1) nd rfl (.inl hv1) pe_str rfl (.inr hv1)) (pss_cons (L2N.ps_try_many (X := Z) (tb := tb) (l := [(.ref (He.ga X.K "InvalidPlace"), tsW "place"), (.ref (He.ga X.K "NothingToUndo"), tsW "undo"), (.ref (He.ga X.K "PushError"), tsW "else")]) rfl rfl tk0 (fun Wx pn xe tk _ => ?_)
      (.cons ⟨hs1, by decide, .inl WE.m1⟩ (hsu _ _ _ _ _) (.cons ⟨hs2, by decide, .inl WE.m2⟩ (hsu _ _ _ _ _) (.cons ⟨hs3, by decide, .inl WE.m3⟩ (hsu _ _ _ _ _) .nil)))) (pss_one (ps_ret (pe_var (X := Z) (i := 1) rfl (.inl hv1) (by rfl) (by rfl))))), ?_⟩
    · refine ⟨fun pz sz τ G Dn J0 hg => ?_⟩
      obtain ⟨Ech, hW, g1, g2, g3, g4⟩ := hg
      have hpe := pe_actG (p1 := p4) (p2 := p5) (cO := cO) (E := Ech) (i := 0) I1 L hq hf hfn hfr (hbind _ _ _ _ _) tk hW hr' (fun A outer s H hr2 => hbody A outer s H Ech f c' al hr2) rfl (.inl hv0) (by decide) (by decide)
      exact (pss_one (ps_expr hpe)).run pz sz τ G Dn J0 ⟨g1, g2, g3, g4⟩
    · have fin : ∀ (x : Str) (τ : L2.St) (G : Hp), τ.length = 2 → Q (.str x) G → ∃ v, (τ.set 1 (some (.str x)))[1]? = some (some v) ∧ Q v G := fun x τ G hl hq => ⟨.str x, List.getElem?_set_self (by omega), hq⟩
      refine ⟨fun cl d G => (cl = .ref (He.ga X.K "InvalidPlace") ∧ Q (.str "place") G) ∨ (cl = .ref (He.ga X.K "NothingToUndo") ∧ Q (.str "undo") G), fun cl d σ' H' hE => ?_, rfl, hco, hcd', W1, st1, hh1, hs.ext e1, hRP, ?_⟩
      · rcases hE with ⟨e, hQ⟩ | ⟨e, hQ⟩
        · rw [e]
          refine ⟨true, WE.e11, ?_, ?_⟩
          · intro _ a _ hl
            exact fin _ σ' H' hl hQ
          · intro z
            cases z
        · rw [e]
          refine ⟨false, WE.e21, ?_, ?_⟩
          · intro z
            cases z
          · intro _
            refine ⟨true, WE.e22, ?_, ?_⟩
            · intro _ a _ hl
              exact fin _ σ' H' hl hQ
            · intro z
              cases z
      · have h2 : Fin X.K W1 H1 (E σ) (wordM (mb al) st1) Q := h1
        unfold wordM at h2
        cases hm : mb al st1 with
        | ok d st' =>
          rw [hm] at h2
          exact fun W' H' e2 hh2 v r => ⟨.str "none", rfl, h2 W' H' e2 hh2 (.str "none") ⟨rfl, by decide⟩⟩
        | exc ee st' =>
          rw [hm] at h2
          intro W' H' C d e2 hh2 hx
          by_cases hc1 : (ee.cls == "InvalidPlace") = true
          · have h3 : Fin X.K W1 H1 (E σ) (if (ee.cls == "InvalidPlace") = true then .ok (.str sPlace) st' else if (ee.cls == "NothingToUndo") = true then .ok (.str sUndo) st' else .stuck) Q := h2
            rw [if_pos hc1] at h3
            exact .inl ⟨by rw [hx.1, beq_iff_eq.mp hc1], h3 W' H' e2 hh2 (.str "place") ⟨rfl, by decide⟩⟩
          · have h3 : Fin X.K W1 H1 (E σ) (if (ee.cls == "InvalidPlace") = true then .ok (.str sPlace) st' else if (ee.cls == "NothingToUndo") = true then .ok (.str sUndo) st' else .stuck) Q := h2
            rw [if_neg hc1] at h3
            by_cases hc2 : (ee.cls == "NothingToUndo") = true
            · rw [if_pos hc2] at h3
              exact .inr ⟨by rw [hx.1, beq_iff_eq.mp hc2], h3 W' H' e2 hh2 (.str "undo") ⟨rfl, by decide⟩⟩
            · rw [if_neg hc2] at h3
              exact h3.elim
        | stuck =>
          rw [hm] at h2
          exact h2.elim
  refine wpAny_call (codeAny_mono rc fun r s2 hq => ?_)
  cases r with
  | error e =>
    obtain ⟨_, _, _, _, _, _, _, _, _, _, _, _, z⟩ := hq
    exact z.elim
  | ok fl =>
    cases fl with
    | ret u => exact I1.after hq
    | next => exact False.elim hq
    | brk => exact False.elim hq
    | cont => exact False.elim hq
end
end DX
set_option maxHeartbeats 4000000
/-! DX13: len and != of own instances. -/
namespace DX
open PySem PySem.Spec PySem.Calls PyProof.Rows L2 DL DH

/-- a method without what raises, reached by its place in the class -/
structure SpcD (P : Program) (w : World) (K : PySem.W.Frag) (mg : Str → Option Value) (base : Heap) (k : Nat) (C m : Str) (mf : List D → M D) : Prop where
  ex : ∃ f, PySem.W.findIn K (.ref (He.ga K C)) m = some (some (.ref f)) ∧ PySem.W.isFn K (.ref f) = true ∧ FnR P w K mg base (L2N.CX P w) k f (SpR K mf)
theorem room_in1 {k : Nat} {A : Around} (r : Room (k + 1) A) : Room k A.in1 := ⟨r.hd, by have := r.dp; show A.depth + 3 * k + 5 < _; omega, by have := r.un; show A.units + 1 + 16 * k + 200 < _; omega⟩
section
variable {X : Cx} {pins : List (Addr × Obj)} {σ : L2.St} {H : Hp} {s : Shared}
/-- such a method run within a builtin -/
theorem run_in1 {k : Nat} {f : Addr} {mf : List D → M D} {Q : VK} {us : List Value} {vs : List V} (F : FnR X.prog X.w X.K X.mg X.base (L2N.CX X.prog X.w) k f (SpR X.K mf)) (hr : Room (k + 1) X.A) (I : Inv X pins σ H s) (r : Vals vs us) (h : SpR X.K mf vs H Q NoE) {E : Value → Shared → Prop} :
    wpAny (model X.prog X.w) X.A.in1 (call (.ref f) us) (EP X pins σ Q) E s := by
  refine wpAny_call (codeAny_mono (F X.A.in1 X.stack s H us vs Q NoE (room_in1 hr) I.env0.in1 r h) fun r s' hq => ?_)
  cases r with
  | error e =>
    obtain ⟨_, _, _, _, _, _, _, _, _, _, _, _, z⟩ := hq
    exact z.elim
  | ok fl =>
    cases fl with
    | ret u => exact I.after hq
    | next => exact False.elim hq
    | brk => exact False.elim hq
    | cont => exact False.elim hq
/-- len(x) by its own __len__ -/
def rLenO (K : PySem.W.Frag) (C : Str) (mf : List D → M D) : List V → Hp → VK → Prop := fun xs H Q => ∃ (a dx : Addr) (fs : List (Str × V)), xs = [.ref a] ∧ H a = some (.ins (He.ga K C) dx fs) ∧ SpR K mf [.ref a] H (fun v H' => ∃ n : Int, v = .int n ∧ 0 ≤ n ∧ n < 2 ^ 63 ∧ Q (.int n) H') NoE
theorem call_lenO {k : Nat} {C : Str} {mf : List D → M D} (F : SpcD X.prog X.w X.K X.mg X.base k C "__len__" mf) (hr : Room (k + 1) X.A) : CallR X (.builtin "len") (rLenO X.K C mf) := by
  rintro pins s σ H xs us Q I r ⟨a, dx, fs, rfl, ea, h⟩
  obtain ⟨f, hs, hf, G⟩ := F.ex
  obtain ⟨u, rfl, ru⟩ := vals1 r
  obtain rfl : u = Value.ref a := ru
  obtain ⟨mA, O, _⟩ := ins_get I.hok ea
  obtain ⟨od, J, _⟩ := O.look
  refine Calls.call_function_entry PySem.kind_len PySem.plain_len PySem.entry_len (PySem.args_len1 _) ?_
  unfold Builtin.«len»
  refine wpAny_bind (wpAny_pure ?_)
  refine wpAny_bind (m := callSpecial? (.ref a) (Str.ofString "__len__")) (PySem.W.special_fn I.kIn J hs (beq_iff_eq.mp hf) (wpAny_mono (run_in1 (us := [.ref a]) (vs := [.ref a]) G hr I (.cons rfl .nil) h) (fun v s' hv => ?_) fun _ _ z => z))
  obtain ⟨y, H1, I1, ry, n, rfl, h0, h1, hq⟩ := hv
  obtain ⟨t, rfl⟩ := ry
  refine wpAny_bind (wpAny_holding (wpAny_pure ?_))
  refine wpAny_bind (wpAny_letGo ?_)
  show wpAny _ _ (if n < 0 then _ else _) _ _ _
  rw [if_neg (by omega)]
  show wpAny _ _ (if n ≥ 2 ^ 63 then _ else _) _ _ _
  rw [if_neg (by omega)]
  exact wpAny_bind (wpAny_mkInt (wpAny_pure ⟨_, rfl, .int n, H1, I1.tok _, ⟨_, rfl⟩, hq⟩))
end
end DX
namespace DX
open PySem PySem.Spec PySem.Calls PyProof.Rows L2 DL DH
section
variable {X : Cx} {E : DL.St → XK} {σd : List Sl} {e o : Expr} {es : List Expr} {me mo : M D} {pos p p2 apos cpos : Pos} {C : Str} {j k : Nat}
/-- an int from 0 on -/
def asLenI : D → M D
  | .int n => if 0 ≤ n ∧ n < 2 ^ 62 then pure (.int n) else M.stuck
  | _ => M.stuck
theorem de_lenO {mf : List D → M D} (F : SpcD X.prog X.w X.K X.mg X.base j C "__len__" mf) (hr : Room k X.A) (hj : j + 1 ≤ k) (hg : Gl X "len") (hm : X.mg "len" = none) (ho : DE X E σd o mo) (he : starEach [o] X.env = [(false, eval o X.env)]) :
    DE X E σd (.Call (.Name "len" p) [o] [] pos) (mo >>= fun x => insM C x >>= fun _ => nox (mf [x]) >>= asLenI) :=
  ⟨pe_imp (pe_callB (call_lenO F (hr.mono hj)) hg hm (by rfl) (pa_cons ho.pe pa_nil he) (by decide) (by decide) he) fun σ H Q ⟨W, st, hh, hs, h⟩ => tD_run hh hs h fun d v W1 H1 st1 e1 hh1 hs1 r1 h1 => by
    obtain ⟨i, a, dx, fs, vfs, rfl, rfl, q1, q2, u, ea, hfs, h2⟩ := insM_run hh1 r1 h1
    refine ⟨a, dx, vfs, rfl, ea, W1, st1, [.ref i], hh1, ⟨_, [], rfl, r1, rfl⟩, After.nox ((After.bind h2).mono fun y W2 H2 st2 _ e2 hh2 h3 => ?_) _⟩
    intro v2 rv
    unfold asLenI at h3
    cases y with
    | int n =>
      have h4 : After X.K W2 H2 (E σ) ((if 0 ≤ n ∧ n < 2 ^ 62 then pure (.int n) else M.stuck : M D) st2) (fun d W' H' _ => ∀ v, Rep X.K W' H' v d → Q v H') := h3
      by_cases hn : 0 ≤ n ∧ n < 2 ^ 62
      · rw [if_pos hn] at h4
        exact ⟨n, rv, hn.1, by have := hn.2; omega, After.pure' h4 hh2 _ rfl⟩
      · rw [if_neg hn] at h4
        exact h4.elim
    | _ => exact h3.elim⟩
/-! ### != by the own __eq__ -/
structure NeqC (K : PySem.W.Frag) (C : Addr) : Prop where
  ne : PySem.W.findIn K (.ref C) "__ne__" = some (some (.builtin "object.__ne__"))
  ob : PySem.W.mroIn K C (.type "object") = some true
def rNeO (K : PySem.W.Frag) (C : Str) (mf : List D → M D) : R2 := fun x y H Q => ∃ (a b dx dy : Addr) (fs gs : List (Str × V)), x = .ref a ∧ y = .ref b ∧ H a = some (.ins (He.ga K C) dx fs) ∧ H b = some (.ins (He.ga K C) dy gs) ∧
  SpR K mf [.ref a, .ref b] H (fun v H' => ∃ c : Bool, v = .bl c ∧ Q (.bl !c) H') NoE
theorem op_neO {mf : List D → M D} (F : SpcD X.prog X.w X.K X.mg X.base j C "__eq__" mf) (c : NeqC X.K (He.ga X.K C)) (hr : Room k X.A) (hj : j + 1 ≤ k) : OpR X (compareOp .NotEq) (rNeO X.K C mf) := by
  intro pins s σ H x y v u Q I rx ry h
  obtain ⟨a, b, dx, dy, fs, gs, rfl, rfl, ea, eb, h⟩ := h
  cases rx
  cases ry
  obtain ⟨f, hs, hf, G⟩ := F.ex
  obtain ⟨mA, O, _⟩ := ins_get I.hok ea
  obtain ⟨od, J, _⟩ := O.look
  obtain ⟨mB, O2, _⟩ := ins_get I.hok eb
  obtain ⟨od2, J2, _⟩ := O2.look
  have hu : X.A.units + 1 < cLine := by
    have := hr.un
    omega
  have hu1 : X.A.in1.units < cLine := hu
  have hcall := run_in1 (E := X.xe) (us := [.ref a, .ref b]) (vs := [.ref a, .ref b]) G (hr.mono hj) I (.cons rfl (.cons rfl .nil)) h
  -- within object.__ne__
  have hin : ∀ (R : PySem.Fin → Shared → Prop), (∀ (c : Bool) (s' : Shared) (H' : Hp), Inv X pins σ H' s' → Q (.bl !c) H' → R (.done (.ret (.bool (!c)))) s') → wpAny (model X.prog X.w) X.A.in1 (Builtin.«object.__ne__» ⟨[.ref a, .ref b], []⟩) R X.xe s := fun R hR => by
    unfold Builtin.«object.__ne__»
    refine wpAny_bind (wpAny_pure ?_)
    refine wpAny_bind (wpAny_cRoomFor hu1 ?_)
    refine wpAny_bind (m := callSpecialIfBound? (.ref a) (Str.ofString "__eq__") [.ref b]) (PySem.W.ifBound_K I.kIn J hs hf (wpAny_mono hcall (fun v s' hv => ?_) fun _ _ z => z))
    obtain ⟨y, H1, I1, ry, c, rfl, hq⟩ := hv
    obtain rfl : v = Value.bool c := ry
    refine wpAny_bind (m := truthy (.bool _)) (wpAny_truthy_bool ?_)
    exact wpAny_pure (hR c s' H1 I1 hq)
  have one : wpAny (model X.prog X.w) X.A (tryCompare (.ref a) "__ne__" (.ref b)) (fun r s' => ∃ (c : Bool) (H' : Hp), r = some (.bool (!c)) ∧ Inv X pins σ H' s' ∧ Q (.bl !c) H') X.xe s := by
    unfold tryCompare
    refine wpAny_bind ?_
    simp only [callSpecialIfBound?, bindSpecialIfBound?]
    refine wpAny_holding (wpAny_bind (wpAny_bind (wpAny_bind (J.type.here ((PySem.W.looks_findIn I.kIn c.ne).here ?_)))))
    simp only [PySem.F.cmp_object.ne.bind]
    refine wpAny_bind (wpAny_askSetting (wpAny_ite ?_))
    have hc : wpAny (model X.prog X.w) X.A (call (.builtin "object.__ne__") [.ref a, .ref b]) (fun v s' => ∃ (c : Bool) (H' : Hp), v = .bool (!c) ∧ Inv X pins σ H' s' ∧ Q (.bl !c) H') X.xe s := by
      refine wpAny_call (codeAny_call_builtin PySem.F.cmp_object.ne.plain PySem.F.cmpEntry_ne (PySem.W.check_slot PySem.F.cmpKind_ne PySem.F.cmpSplit_ne (J.type.andThen (PySem.W.looks_mroIn I.kIn c.ob)) (PySem.F.cmpArgs_ne _ _) ?_))
      exact hin _ fun c s' H' I' hq => ⟨c, H', rfl, I', hq⟩
    have fin : wpAny (model X.prog X.w) X.A (call (.builtin "object.__ne__") ([.ref a] ++ [.ref b]) >>= fun v => pure (some v)) (fun r s' => wpAny (model X.prog X.w) X.A (match r with
        | some .notImplemented | none => pure none
        | some v => pure (some v)) (fun r s' => ∃ (c : Bool) (H' : Hp), r = some (.bool (!c)) ∧ Inv X pins σ H' s' ∧ Q (.bl !c) H') X.xe s') X.xe s :=
      wpAny_bind (wpAny_mono hc (fun v s' hv => by
        obtain ⟨c, H', rfl, I', hq⟩ := hv
        exact wpAny_pure (wpAny_pure ⟨c, H', rfl, I', hq⟩)) fun _ _ z => z)
    split
    · exact wpAny_bind (wpAny_pure (wpAny_pure fin))
    · exact wpAny_tryCatch (wpAny_bind (wpAny_pure (wpAny_pure fin)))
  show wpAny _ _ (richCompare .NotEq (.ref a) (.ref b)) _ _ _
  unfold richCompare
  simp only [oneThing_ref]
  refine wpAny_holding (wpAny_bind (wpAny_cRoomFor (by omega) ?_))
  rw [cmpInfo_NotEq]
  dsimp only
  refine wpAny_bind (J.type.here (wpAny_bind (J2.type.here ?_)))
  rw [show (Value.ref (He.ga X.K C) != Value.ref (He.ga X.K C)) = false from by simp]
  simp only [Bool.false_eq_true, if_false]
  refine wpAny_bind (wpAny_pure ?_)
  simp only [Bool.false_eq_true, if_false]
  refine wpAny_bind (wpAny_mono one (fun r s' hr => ?_) fun _ _ z => z)
  obtain ⟨c, H', rfl, I', hq⟩ := hr
  first | exact wpAny_pure ⟨.bl !c, H', I', rfl, hq⟩ | exact wpAny_pure (wpAny_pure ⟨.bl !c, H', I', rfl, hq⟩)
def dNeO (C : Str) (mf : List D → M D) (x y : D) : M D := insM C x >>= fun _ => insM C y >>= fun _ => nox (mf [x, y]) >>= fun r => match r with
  | .bl c => pure (.bl !c)
  | _ => M.stuck
theorem rd_neO {mf : List D → M D} : RD X.K (rNeO X.K C mf) (dNeO C mf) := by
  intro W H st x y dx dy Q E hh rx ry hq
  obtain ⟨i, a, dxa, fs, vfs, rfl, rfl, q1, q2, u, ea, hfs, h2⟩ := insM_run hh rx hq
  obtain ⟨i2, b, dyb, gs, vgs, rfl, rfl, q3, q4, u2, eb, hgs, h3⟩ := insM_run hh ry h2
  refine ⟨a, b, dxa, dyb, vfs, vgs, rfl, rfl, ea, eb, W, st, [.ref i, .ref i2], hh, ⟨_, _, rfl, rx, _, [], rfl, ry, rfl⟩, After.nox ((After.bind h3).mono fun r W2 H2 st2 _ e2 hh2 h4 => ?_) _⟩
  intro v rv
  cases r with
  | bl c => exact ⟨c, rv, After.pure' h4 hh2 _ rfl⟩
  | _ => exact h4.elim
end
end DX
set_option maxHeartbeats 4000000
/-! DX14: o.pop(), f-strings, isinstance of an own class. -/
namespace DX
open PySem PySem.Spec PySem.Calls PyProof.Rows L2 DL DH
section
variable {X : Cx} {E : DL.St → XK} {σd : List Sl} {e o : Expr} {es : List Expr} {me mo : M D} {pos p p2 apos cpos : Pos} {C : Str} {j k : Nat}
/-! ### pop -/
def popC : D → M D
  | .ref k => rdC k >>= fun xs => match xs[xs.length - 1]? with
    | some y => wrC k (.lst xs.dropLast) >>= fun _ => pure y
    | none => M.stuck
  | _ => M.stuck
theorem repsDrop {K : PySem.W.Frag} {W : Wd} {H : Hp} : ∀ {vs : List V} {ds : List D}, Reps K W H vs ds → Reps K W H vs.dropLast ds.dropLast
  | vs, [], r => by
    have e : vs = [] := r
    subst e
    exact rfl
  | vs, [d], r => by
    obtain ⟨v, r, rfl, r1, r2⟩ := r
    have e : r = [] := r2
    subst e
    exact rfl
  | vs, d :: d2 :: ds, r => by
    obtain ⟨v, rr, rfl, r1, r2⟩ := r
    have z := repsDrop r2
    obtain ⟨v2, r3, rfl, _, _⟩ := r2
    exact ⟨v, _, rfl, r1, z⟩
theorem de_pop (ho : DE X E σd o mo) (hbase : attributeBase o "pop" X.env (eval o X.env) = eval o X.env) (hline : (apos.endLine == cpos.line) = true) : DE X E σd (.Call (.Attribute o "pop" apos) [] [] cpos) (mo >>= popC) :=
  ⟨pe_imp (pe_bm0 PySem.F.plainAttrs_list PySem.F.slot_list_pop PySem.F.type_list_pop mt_pop ho.pe hbase hline) fun σ H Q ⟨W, st, hh, hs, h⟩ =>
    tD_run hh hs h fun d v W1 H1 st1 e1 hh1 hs1 r1 h1 => by
      cases d with
      | ref k =>
        have h1' : Fin X.K W1 H1 (E σ) ((rdC k >>= fun xs => match xs[xs.length - 1]? with
          | some y => wrC k (.lst xs.dropLast) >>= fun _ => pure y
          | none => M.stuck) st1) Q := h1
        rcases rdC_cases k st1 with ⟨xs, q, q2⟩ | q
        · rw [bind_ok q2] at h1'
          refine ⟨tyV_ref hh1 r1 q, ?_⟩
          obtain ⟨a, rfl, ha⟩ := r1
          obtain ⟨u, vs, e2, hz, r⟩ := hh1.cell k _ a q ha
          cases hx : xs[xs.length - 1]? with
          | none =>
            rw [hx] at h1'
            exact h1'.elim
          | some y =>
            rw [hx] at h1'
            obtain ⟨vy, hvy, ry⟩ := r.get hx
            have h3 : Fin X.K W1 H1 (E σ) (.ok y (st1.set k (.lst xs.dropLast)) : DL.R D) Q := h1'
            have hw := hh1.wr (o' := .lst vs.dropLast) (c := .lst xs.dropLast) u ha e2 ⟨u, _, upd_same, by rw [List.length_dropLast]; omega, (repsDrop r).upd u⟩
            have x1 : Ext W1 W1 H1 (upd H1 a (.lst vs.dropLast)) := Ext.wr u (List.mem_of_getElem? ha) e2
            exact ⟨a, vs, vy, rfl, rfl, e2, by rw [r.length]; exact hvy, h3 W1 _ x1 hw _ (ry.ext x1)⟩
        · rw [bind_stuck q] at h1'
          exact h1'.elim
      | _ => exact h1.elim⟩
/-! ### f-strings -/
def digs (i : Int) : List Nat := (Str.ofString (toString i)).cps.toList
def dFmt : D → M D
  | .str cs => if sOk cs = true then pure (.str cs) else M.stuck
  | .int i => if i.natAbs.log2 < 1900 ∧ sOk (digs i) = true then pure (.str (digs i)) else M.stuck
  | _ => M.stuck
theorem de_fmt (he : DE X E σd e me) : DE X E σd (.FormattedValue e (-1) none pos) (me >>= dFmt) :=
  ⟨pe_imp (pe_fmt he.pe) fun σ H Q ⟨W, st, hh, hs, h⟩ => tD_run hh hs h fun d v W1 H1 st1 e1 hh1 hs1 r1 h1 => by
    cases d with
    | str cs =>
      have h2 : Fin X.K W1 H1 (E σ) ((if sOk cs = true then pure (.str cs) else M.stuck : M D) st1) Q := h1
      by_cases hc : sOk cs = true
      · rw [if_pos hc] at h2
        obtain ⟨rfl, _⟩ := r1
        exact .inl ⟨DL.mkS cs, rfl, by rw [mkS_len]; exact szLine (sOk_iff.mp hc).1, After.pure' h2 hh1 _ ⟨rfl, hc⟩⟩
      · rw [if_neg hc] at h2
        exact h2.elim
    | int i =>
      have h2 : Fin X.K W1 H1 (E σ) ((if i.natAbs.log2 < 1900 ∧ sOk (digs i) = true then pure (.str (digs i)) else M.stuck : M D) st1) Q := h1
      by_cases hc : i.natAbs.log2 < 1900 ∧ sOk (digs i) = true
      · rw [if_pos hc] at h2
        obtain rfl : v = .int i := r1
        exact .inr ⟨i, rfl, by have := hc.1; omega, After.pure' h2 hh1 _ ⟨by unfold digs; rw [mkS_of], hc.2⟩⟩
      · rw [if_neg hc] at h2
        exact h2.elim
    | _ => exact h1.elim⟩
/-- the parts -/
inductive DJ (X : Cx) (E : DL.St → XK) (σd : List Sl) : List Expr → List (M D) → Prop where
  | nil : DJ X E σd [] []
  | cons {e : Expr} {m : M D} {es : List Expr} {ms : List (M D)} (h : DE X E σd e m) (r : DJ X E σd es ms) : DJ X E σd (e :: es) (m :: ms)
def joinP : List (M D) → List Nat → M D
  | [], acc => pure (.str acc)
  | m :: ms, acc => m >>= fun d => match d with
    | .str cs => if sOk (acc ++ cs) = true then joinP ms (acc ++ cs) else M.stuck
    | _ => M.stuck
theorem dj_pj {es : List Expr} {ms : List (M D)} (h : DJ X E σd es ms) : ∃ ts : List TE, PJ X es ts ∧ ∀ (acc : List Nat) (σ : L2.St) (H : Hp) (W : Wd) (st : Store) (Q : VK), sOk acc = true → Holds X.K W H st → Slots X.K W H σd σ → Fin X.K W H (E σ) (joinP ms acc st) Q → tJs ts (DL.mkS acc) σ H fun out H1 => Q (.str out) H1 := by
  induction h with
  | nil => exact ⟨[], .nil, fun acc σ H W st Q ho hh hs h => After.pure' h hh _ ⟨rfl, ho⟩⟩
  | @cons e m es ms he r ih =>
    obtain ⟨ts, hp, hq⟩ := ih
    refine ⟨_ :: ts, .cons he.pe hp, fun acc σ H W st Q ho hh hs h => ?_⟩
    refine tD_run hh hs h fun d v W1 H1 st1 e1 hh1 hs1 r1 h1 => ?_
    cases d with
    | str cs =>
      have h2 : Fin X.K W1 H1 (E σ) ((if sOk (acc ++ cs) = true then joinP ms (acc ++ cs) else M.stuck : M D) st1) Q := h1
      by_cases hc : sOk (acc ++ cs) = true
      · rw [if_pos hc] at h2
        obtain ⟨rfl, _⟩ := r1
        have ea : (DL.mkS acc ++ DL.mkS cs : Str) = DL.mkS (acc ++ cs) := by
          show (⟨acc.toArray ++ cs.toArray⟩ : Str) = ⟨(acc ++ cs).toArray⟩
          simp
        refine ⟨DL.mkS cs, rfl, ?_, ?_⟩
        · rw [ea, mkS_len]
          exact szLine (sOk_iff.mp hc).1
        · rw [ea]
          exact hq (acc ++ cs) σ H1 W1 st1 Q hc hh1 hs1 h2
      · rw [if_neg hc] at h2
        exact h2.elim
    | _ => exact h1.elim
theorem de_joined {v1 v2 : Expr} {rest : List Expr} {ms : List (M D)} (h : DJ X E σd (v1 :: v2 :: rest) ms) : DE X E σd (.JoinedStr (v1 :: v2 :: rest) pos) (joinP ms []) := by
  obtain ⟨ts, hp, hq⟩ := dj_pj h
  exact ⟨pe_imp (pe_joined hp) fun σ H Q ⟨W, st, hh, hs, h⟩ => hq [] σ H W st Q (by decide) hh hs h⟩
/-! ### isinstance(x, C), x an instance of C itself -/
structure IsiC (K : PySem.W.Frag) (C : Addr) : Prop where
  cl : Cls K C
  ha : PySem.W.findIn K (.ref C) "__class__" = some (some (.builtin "object.__class__"))
  hn : PySem.W.specialIn K (.builtin "object.__class__") "__get__" = some (some (.builtin "getset_descriptor.__get__"))
  ht : PySem.W.takesIn K (.builtin "object.__class__") = some true
  hm : PySem.W.mroIn K C (.type "object") = some true
theorem de_isiO (c : IsiC X.K (He.ga X.K C)) (hg : Gl X "isinstance") (hm : X.mg "isinstance" = none) (hgy : Gl X C) (hmy : X.mg C = some (.ref (He.ga X.K C))) (hdy : (C == ("__debug__" : Str)) = false) (he : DE X E σd e me)
    (hst : starEach [e, .Name C p2] X.env = [(false, eval e X.env), (false, eval (.Name C p2) X.env)]) (hst2 : starEach [.Name C p2] X.env = [(false, eval (.Name C p2) X.env)]) :
    DE X E σd (.Call (.Name "isinstance" p) [e, .Name C p2] [] pos) (me >>= fun x => insM C x >>= fun _ => pure (.bl true)) :=
  ⟨pe_imp (pe_callB call_isi hg hm (by rfl) (pa_cons he.pe (pa_cons (pe_glob hgy hmy (v := .ref (He.ga X.K C)) rfl hdy) pa_nil hst2) (by rw [hst, hst2])) (by decide) (by decide) (by rw [hst, hst2]) (by rw [hst2]; rfl)) fun σ H Q ⟨W, st, hh, hs, h⟩ => tD_run hh hs h fun d v W1 H1 st1 e1 hh1 hs1 r1 h1 => by
    obtain ⟨i, a, dx, fs, vfs, rfl, rfl, q1, q2, u, ea, hfs, h2⟩ := insM_run hh1 r1 h1
    refine ⟨.ref a, .ref (He.ga X.K C), .ref (He.ga X.K C), .ref (He.ga X.K C), true, rfl, .own _, .base (.ins ea c.cl c.ha c.hn c.ht c.hm), ?_, After.pure' h2 hh1 _ rfl⟩
    unfold PySem.W.kitOne
    rw [if_pos (by simp)]⟩
end
end DX
set_option maxHeartbeats 4000000
/-! DX15: a lambda made within a lambda: the outer one's code object has a table of its own. -/
namespace DX
open PySem PySem.Spec PySem.Calls PyProof.Rows L2 DL DH LamX
open PySem.W (CodeHd tabObj kla_obj kla_fn)

/-! ### the making -/
section
variable {M : Model} {A : Around} {E : Value → Shared → Prop} {s : Shared} {name qual : Str} {params : Arguments} {body : Expr} {scope : Scope} {env : Env} {c P : Addr} {ps : Array Value} {pos : Pos} {firstLine : Nat} {mg : Str → Option Value}
  {clos : List (Str × Addr)} {Q : Value → Shared → Prop}
/-- the new code object's own table is told of -/
theorem kla_makeX (hcl : closureFor scope env = pure clos) (hge0 : env.globals = mainGlobals) (hg : s.heap.Ns mainGlobals mg) (hcode : env.code = .ref c) (C : CodeHd s.heap c P) (hP : s.heap.get? P = some (tabObj ps)) (ht : TriplesOk ps.toList)
    (hnf : codeAmong pos ps.toList = none) (hgP : mainGlobals ≠ P) (hb : s.heap.BuiltinsAt mg P)
    (h : ∀ c' P' ctv h' tk, Heap.ExtBut P s.heap h' → s.heap.objs.size ≤ c' → c' < h'.objs.size → s.heap.objs.size ≤ P' → h'.CodeRec (.ref c') qual → h'.get? P = some (tabObj (ps ++ #[rawInt pos.line, rawInt pos.col, .ref c'])) → CodeHd h' c' P' → h'.get? P' = some (tabObj #[]) →
      Q (.ref h'.objs.size) { s with heap := h'.push (kla_obj name qual params body scope clos ((mg "__name__").getD .none) c' ctv), toks := tk }) :
    wpAny M A (makeFunction name qual params (.expr body) scope env [] [] [] pos firstLine) Q E s := by
  rw [makeFunction_eq]
  simp only [List.zip_nil_right, List.filterMap_nil, List.isEmpty_nil, if_true, pure_bind]
  obtain ⟨bm, ob, hbm, hne0, _, hneP, hbo, hcls, hdict, hdata⟩ := hb
  unfold makeTail
  rw [hcl, hge0]
  refine wpAny_bind (wpAny_pure ?_)
  cases clos with
  | nil =>
    simp only [List.isEmpty_nil, if_true]
    refine wpAny_bind (wpAny_pure ?_)
    refine wpAny_bind (wpAny_functionCodeX hcode (C.code hP ht) (C.tab hP) hnf fun c' h' tk hx hge hlt _ hrec htb hin => ?_)
    obtain ⟨P', g1, g2, g3⟩ := hin
    have hg' := hg.extBut hx hgP
    refine wpAny_bind (wpAny_builtinsFor hg' hbm hne0 (hx _ _ hneP hbo) hcls hdict hdata ?_)
    refine wpAny_bind (wpAny_nsGet hg' ?_)
    exact wpAny_bind (wpAny_pure (wpAny_newObj_type (h c' P' .none h' tk hx hge hlt g1 hrec htb.2 (CodeHd.of g2 g3) g3.2) (by size_fits)))
  | cons q r =>
    simp only [List.isEmpty_cons, Bool.false_eq_true, if_false]
    refine wpAny_bind (wpAny_newTextTuple ?_)
    refine wpAny_bind (wpAny_functionCodeX hcode ((C.keeps fun b o e => Heap.get?_push_of_some _ e).code (Heap.get?_push_of_some _ hP) ht) ((C.keeps fun b o e => Heap.get?_push_of_some _ e).tab (Heap.get?_push_of_some _ hP)) hnf fun c' h' tk hx hge hlt _ hrec htb hin => ?_)
    obtain ⟨P', g1, g2, g3⟩ := hin
    have hg' := (hg.push _).extBut hx hgP
    have hx' : Heap.ExtBut P s.heap h' := fun b o hb' e => hx b o hb' (Heap.get?_push_of_some _ e)
    have hge' : s.heap.objs.size ≤ c' := Nat.le_trans (by rw [Heap.size_push]; omega) hge
    have hge2 : s.heap.objs.size ≤ P' := Nat.le_trans (by rw [Heap.size_push]; omega) g1
    refine wpAny_bind (wpAny_builtinsFor hg' hbm hne0 (hx' _ _ hneP hbo) hcls hdict hdata ?_)
    refine wpAny_bind (wpAny_nsGet hg' ?_)
    exact wpAny_bind (wpAny_pure (wpAny_newObj_type (h c' P' _ h' tk hx' hge' hlt hge2 hrec htb.2 (CodeHd.of g2 g3) g3.2) (by size_fits)))
end
section
variable {X : Cx} {pins : List (Addr × Obj)} {σ : L2.St} {H : Hp} {s : Shared}
/-- the table is written, a new code object and a new table are known from now on -/
theorem inv_table2 {P c P2 : Addr} {cO : HO} {ps more : Array Value} {h' : Heap} {t' : Nat} (I : Inv X pins σ H s) (hP : H P = some (.tbl ps)) (k : ∀ b o, b ≠ P → s.heap.get? b = some o → h'.get? b = some o)
    (hm : h'.get? P = some { cls := .none, data := .fields (ps ++ more) }) (hc : s.heap.objs.size ≤ c) (hc2 : s.heap.objs.size ≤ P2) (hne : P2 ≠ c) (ho : ∀ G, ObjOk X.prog X.w G h' c cO) (hm2 : h'.get? P2 = some { cls := .none, data := .fields #[] }) :
    Inv X pins σ (upd (upd (upd H P (.tbl (ps ++ more))) c cO) P2 (.tbl #[])) { s with heap := h', toks := t' } := by
  have nC : H c = none := I.hok.fresh hc
  have nC2 : H P2 = none := I.hok.fresh hc2
  have nPc : P ≠ c := ne_of_none hP nC
  have nP2 : P ≠ P2 := ne_of_none hP nC2
  have at_ : ∀ b, b ≠ P → b ≠ c → b ≠ P2 → upd (upd (upd H P (.tbl (ps ++ more))) c cO) P2 (.tbl #[]) b = H b := fun b h1 h2 h3 => by rw [upd_ne h3, upd_ne h2, upd_ne h1]
  have atP : upd (upd (upd H P (.tbl (ps ++ more))) c cO) P2 (.tbl #[]) P = some (.tbl (ps ++ more)) := by rw [upd_ne nP2, upd_ne nPc, upd_same]
  have nP : ∀ b u, H b = some u → (∀ q, u ≠ .tbl q) → b ≠ P := fun b u e q z => by
    rw [z, hP] at e
    exact q ps (Option.some.inj e).symm
  have nN : ∀ b, H b = none → b ≠ P := fun b e z => by
    rw [z, hP] at e
    cases e
  have lt' : ∀ b o, s.heap.get? b = some o → b ≠ c ∧ b ≠ P2 := fun b o e => ⟨fun z => by
    rw [z] at e
    exact Nat.lt_irrefl _ (Nat.lt_of_lt_of_le (Heap.lt_size e) hc), fun z => by
    rw [z] at e
    exact Nat.lt_irrefl _ (Nat.lt_of_lt_of_le (Heap.lt_size e) hc2)⟩
  have sm : ∀ b u, H b = some u → b ≠ c := fun b u e => ne_of_none e nC
  have sm2 : ∀ b u, H b = some u → b ≠ P2 := fun b u e => ne_of_none e nC2
  refine I.step (g' := s.gens) (d' := s.drawn) (ch := []) (fun b hb => absurd hb (by simp)) (fun b o _ _ _ e n => k b o (nN b n) e) (fun b o _ _ _ e n => ⟨o.slots, k b o (nN b n) e⟩)
    (fun b o _ e n => by rw [at_ b (nN b n) (lt' b o e).1 (lt' b o e).2]; exact n) (fun b o _ e => ?_) (fun b xs e => by rw [at_ b (nP b _ e (fun q z => by cases z)) (sm b _ e) (sm2 b _ e)]; exact e) (fun b o u e => by rw [at_ b (nP b _ e (fun q z => by cases z)) (sm b _ e) (sm2 b _ e)]; exact e) (fun b qs e => ?_) (fun m hn => ?_) (fun b u e => ?_) I.bare
  · by_cases hb : b = P
    · rw [hb]
      exact ⟨_, hm⟩
    · exact ⟨o, k b o hb e⟩
  · by_cases hb : b = P
    · rw [hb, hP] at e
      cases e
      rw [hb, atP]
      exact ⟨more, rfl⟩
    · rw [at_ b hb (sm b _ e) (sm2 b _ e), e]
      exact ⟨#[], by simp⟩
  · obtain ⟨ob, es, ep, ho, r⟩ := hn
    exact ⟨ob, es, ep, k _ ob (nN _ I.free) ho, r⟩
  · by_cases hb2 : b = P2
    · rw [hb2, upd_same] at e
      cases e
      rw [hb2]
      exact hm2
    · by_cases hb : b = c
      · rw [hb, upd_ne (Ne.symm hne), upd_same] at e
        cases e
        rw [hb]
        exact ho _
      · by_cases hb3 : b = P
        · rw [hb3, atP] at e
          cases e
          rw [hb3]
          exact hm
        · rw [at_ b hb3 hb hb2] at e
          refine (I.hok b u e).stay (fun d v hd q => k d v ?_ q) (fun d q => by rw [at_ d (nP d _ q (fun q z => by cases z)) (sm d _ q) (sm2 d _ q)]; exact q) fun d xs q => by rw [at_ d (nP d _ q (fun q z => by cases z)) (sm d _ q) (sm2 d _ q)]; exact q
          rcases hd with z | z
          · rw [z]
            exact hb3
          · exact nP d _ z (fun q z => by cases z)
/-- what the making does: the code is found, or the table grows -/
def GrownX (H H1 : Hp) (P c' : Addr) (q : Str) (ps : Array Value) (pos : Pos) : Prop := (H1 = H ∧ codeAmong pos ps.toList = some (.ref c')) ∨
  (codeAmong pos ps.toList = none ∧ H c' = none ∧ ∃ P' : Addr, H P' = none ∧ P' ≠ c' ∧ H1 = upd (upd (upd H P (.tbl (ps ++ #[rawInt pos.line, rawInt pos.col, .ref c']))) c' (CodeN c' q P')) P' (.tbl #[]))
theorem lam_mkX {c P : Addr} {q : Str} {ps : Array Value} {params : Arguments} {body : Expr} {scope : Scope} {pos : Pos} {E : Value → Shared → Prop} {Q : Value → Shared → Prop} (I : Inv X pins σ H s) (C : CodeHd s.heap c P) (bP : s.heap.BuiltinsAt X.mg P) (gP : mainGlobals ≠ P) (hcode : X.env.code = .ref c) (hq : X.env.qual ++ "<lambda>" = q)
    (hP : H P = some (.tbl ps)) (ht : TriplesOk ps.toList) (ha : ∀ cv : Value, codeAmong pos ps.toList = some cv → ∃ c, cv = .ref c) (hdef : defaultsOf params X.env = ([], [])) (hfree : ∀ y ∈ scope.names, y.2 = .free → ∃ c, X.env.cells.lookup y.1 = some c)
    (h : ∀ (f c' : Addr) (pm ctv : Value) (H1 : Hp) (s' : Shared), Inv X pins σ H1 s' → GrownX H H1 P c' q ps pos → s'.heap.get? f = some (kla_obj "<lambda>" q params body scope (cloFrom X.env.cells scope.names []) pm c' ctv) → H1 f = none → f ∉ frs X.stack → Q (.ref f) s') :
    wpAny (model X.prog X.w) X.A (eval (.Lambda params body scope pos) X.env) Q E s := by
  subst hq
  refine PySem.W.kla_eval hdef ?_
  have hP' : s.heap.get? P = some { cls := .none, data := .fields ps } := I.hok P _ hP
  have nofr : ∀ f, s.heap.objs.size ≤ f → f ∉ frs X.stack := fun f hf z => (List.mem_cons.mp (I.stkSub _ z)).elim (fun e => by
    have h1 := I.lt
    rw [← e] at h1
    exact Nat.lt_irrefl _ (Nat.lt_of_lt_of_le h1 hf)) fun e => I.nofs hf e
  cases hc : codeAmong pos ps.toList with
  | none =>
    refine kla_makeX (mg := X.mg) (c := c) (P := P) (ps := ps) (closure_ok hfree) I.ok.glob (I.mod.glob.keeps I.bk) hcode C hP' ht hc gP bP fun c' P' ctv h' tk hx hge hlt hge2 hrec htb hcd htb2 => ?_
    obtain ⟨c2, oc, vs, t, e2, hoc, hd, hv⟩ := hrec
    cases e2
    have hsz : s.heap.objs.size ≤ h'.objs.size := Nat.le_trans hge (Nat.le_of_lt hlt)
    have nC : H c' = none := I.hok.fresh hge
    have nC2 : H P' = none := I.hok.fresh hge2
    have hne : P' ≠ c' := fun z => by
      rw [z, hoc] at htb2
      cases htb2
      have hd2 : (Array.mkEmpty 0 : Array Value) = vs := by
        have z2 : (Data.fields (#[] : Array Value)) = Data.fields vs := hd
        exact Data.fields.inj z2
      rw [← hd2] at hv
      cases hv
    have I1 := inv_table2 (t' := tk) (c := c') (P2 := P') (cO := CodeN c' (X.env.qual ++ "<lambda>") P') (more := #[rawInt pos.line, rawInt pos.col, .ref c']) (h' := h'.push (kla_obj "<lambda>" (X.env.qual ++ "<lambda>") params body scope (cloFrom X.env.cells scope.names []) ((X.mg "__name__").getD .none) c' ctv)) I hP
      (fun b o hb e => Heap.get?_push_of_some _ (hx b o hb e)) (Heap.get?_push_of_some _ htb) hge hge2 hne (fun G => ⟨⟨⟨oc, vs, t, Heap.get?_push_of_some _ hoc, hd, hv⟩, hcd.keeps fun b o e => Heap.get?_push_of_some _ e⟩, ⟨oc, Heap.get?_push_of_some _ hoc⟩, fun h1 h2 ⟨⟨oc, vs, t, a, b, cc⟩, hh⟩ st => ⟨⟨oc, vs, t, st _ a, b, cc⟩, by
        obtain ⟨o, vs, file, tf, flags, tg, inF, text, tt, e, r⟩ := hh
        exact ⟨o, vs, file, tf, flags, tg, inF, text, tt, st _ e, r⟩⟩⟩) (Heap.get?_push_of_some _ htb2)
    refine h h'.objs.size c' ((X.mg "__name__").getD .none) ctv _ _ I1 (.inr ⟨hc, nC, P', nC2, hne, rfl⟩) (Heap.get?_push_size _ rfl) ?_ (nofr _ hsz)
    have hltP : P' < h'.objs.size := Heap.lt_size htb2
    rw [upd_ne (Nat.ne_of_gt hltP), upd_ne (Nat.ne_of_gt hlt), upd_ne (Nat.ne_of_gt (Nat.lt_of_lt_of_le (Heap.lt_size hP') hsz))]
    exact I.hok.fresh hsz
  | some cv =>
    obtain ⟨c', e⟩ := ha cv hc
    refine PySem.W.kla_makeFunctionHit (mg := X.mg) (c := c) (P := P) (ps := ps) (closure_ok hfree) I.ok.glob (I.mod.glob.keeps I.bk) hcode C hP' ht (by rw [hc, e]) bP fun ctv h' tk hx hsz => ?_
    have I1 : Inv X pins σ H { s with heap := h'.push (kla_obj "<lambda>" (X.env.qual ++ "<lambda>") params body scope (cloFrom X.env.cells scope.names []) ((X.mg "__name__").getD .none) c' ctv), toks := tk } := I.kept fun b o e => Heap.get?_push_of_some _ (hx b o e)
    exact h h'.objs.size c' ((X.mg "__name__").getD .none) ctv H _ I1 (.inl ⟨rfl, by rw [hc, e]⟩) (Heap.get?_push_size _ rfl) (I.hok.fresh hsz) (nofr _ hsz)
end
end DX
set_option maxHeartbeats 4000000
/-! DX16: such tables as cells of the store. -/
namespace DX
open PySem PySem.Spec PySem.Calls PyProof.Rows L2 DL DH LamX
open PySem.W (CodeHd tabObj kla_obj kla_fn)

theorem among_app2 {pos p' : Pos} {c cv : Value} (l : List Value) (h : TriplesOk l) (hc : codeAmong p' (l ++ [rawInt pos.line, rawInt pos.col, c]) = some cv) : codeAmong p' l = some cv ∨ (cv = c ∧ p'.line = pos.line ∧ p'.col = pos.col) := by
  fun_induction TriplesOk l with
  | case1 =>
    simp only [List.nil_append, rawInt, codeAmong] at hc
    split at hc
    · rename_i q
      simp only [Bool.and_eq_true, beq_iff_eq] at q
      exact .inr ⟨(Option.some.inj hc).symm, by have := q.1; omega, by have := q.2; omega⟩
    · cases hc
  | case2 a t b u x rest ih =>
    simp only [List.cons_append, codeAmong] at hc ⊢
    split at hc
    · rename_i q
      rw [if_pos q]
      exact .inl hc
    · rename_i q
      rw [if_neg q]
      exact ih h hc
  | case3 l h1 h2 => exact h.elim
theorem among_keep {p' : Pos} {cv : Value} (l r : List Value) (h : TriplesOk l) (hc : codeAmong p' l = some cv) : codeAmong p' (l ++ r) = some cv := by
  fun_induction TriplesOk l with
  | case1 => simp [codeAmong] at hc
  | case2 a t b u x rest ih =>
    simp only [List.cons_append, codeAmong] at hc ⊢
    split at hc
    · rename_i q
      rw [if_pos q]
      exact hc
    · rename_i q
      rw [if_neg q]
      exact ih h hc
  | case3 l h1 h2 => exact h.elim
theorem among_new {pos p' : Pos} {c : Value} (l : List Value) (h : TriplesOk l) (hl : p'.line = pos.line) (hm : p'.col = pos.col) : ∃ cv, codeAmong p' (l ++ [rawInt pos.line, rawInt pos.col, c]) = some cv := by
  fun_induction TriplesOk l with
  | case1 =>
    refine ⟨c, ?_⟩
    simp only [List.nil_append, rawInt, codeAmong]
    rw [if_pos (by simp [hl, hm])]
  | case2 a t b u x rest ih =>
    simp only [List.cons_append, codeAmong]
    split
    · exact ⟨_, rfl⟩
    · exact ih h
  | case3 l h1 h2 => exact h.elim
theorem among_pos {pos p' : Pos} (l : List Value) (h : TriplesOk l) (hl : p'.line = pos.line) (hm : p'.col = pos.col) : codeAmong p' l = codeAmong pos l := by
  fun_induction TriplesOk l with
  | case1 => rfl
  | case2 a t b u x rest ih =>
    simp only [codeAmong]
    rw [hl, hm, ih h]
  | case3 l h1 h2 => exact h.elim
section
variable {K : PySem.W.Frag} {W : Wd} {H H1 : Hp} {st : Store} {j : Nat} {P c' : Addr} {x : Option Str} {q qi : Str} {l m : Nat} {made : Option Nat} {ps : Array Value} {pos : Pos}
theorem triples_app {c : Value} (ht : TriplesOk ps.toList) : TriplesOk (ps ++ #[rawInt pos.line, rawInt pos.col, c]).toList := by
  have eL : (ps ++ #[rawInt pos.line, rawInt pos.col, c]).toList = ps.toList ++ [rawInt pos.line, rawInt pos.col, c] := by simp
  rw [eL]
  exact PySem.TriplesOk_snoc _ _ _ _ ht
/-- made at a place that is not watched -/
theorem holds_grownX (hh : Holds K W H st) (hj : st[j]? = some (.tabG x q l m made)) (hP : W.mu[j]? = some P) (hp : H P = some (.tbl ps)) (hpos : ¬ (pos.line = l ∧ pos.col = m)) (g : GrownX H H1 P c' q ps pos) :
    Ext W W H H1 ∧ Holds K W H1 st ∧ ¬ W.U c' ∧ ∃ P', H1 c' = some (CodeN c' q P') := by
  obtain ⟨u, ea, ps0, h1, h2, h3, h4⟩ := hh.cell j _ P hj hP
  rw [hp] at h1
  cases h1
  rcases g with ⟨e, hc⟩ | ⟨hnf, nc, P', nP, hne, e⟩
  · subst e
    obtain ⟨c0, q1, q2, q3⟩ := h3 pos _ hc
    cases q1
    rcases q3 with ⟨_, P', q4⟩ | ⟨n, _⟩
    · exact ⟨Ext.refl, hh, q2, P', q4⟩
    · exact absurd n hpos
  · have eL : (ps ++ #[rawInt pos.line, rawInt pos.col, .ref c']).toList = ps.toList ++ [rawInt pos.line, rawInt pos.col, .ref c'] := by simp
    have x1 : Ext W W H (upd H P (.tbl (ps ++ #[rawInt pos.line, rawInt pos.col, .ref c']))) := Ext.wr u (List.mem_of_getElem? hP) hp
    have ncP : upd H P (.tbl (ps ++ #[rawInt pos.line, rawInt pos.col, .ref c'])) c' = none := by rw [upd_ne (a := P) (b := c') (fun z => by rw [z, hp] at nc; cases nc)]; exact nc
    have x2 := Ext.new1 (W := W) (o := CodeN c' q P') ncP
    have nP2 : upd (upd H P (.tbl (ps ++ #[rawInt pos.line, rawInt pos.col, .ref c']))) c' (CodeN c' q P') P' = none := by rw [upd_ne hne, upd_ne (a := P) (b := P') (fun z => by rw [z, hp] at nP; cases nP)]; exact nP
    have x3 := Ext.new1 (W := W) (o := .tbl #[]) nP2
    have hc1 : H1 c' = some (CodeN c' q P') := by rw [e, upd_ne (Ne.symm hne), upd_same]
    refine ⟨by rw [e]; exact (x1.trans x2).trans x3, ?_, hh.fresh nc, P', hc1⟩
    -- the new ones first
    have hh2 : Holds K W (upd H c' (CodeN c' q P')) st := hh.new1 nc
    have nPb : upd H c' (CodeN c' q P') P' = none := by rw [upd_ne hne]; exact nP
    have hh3 : Holds K W (upd (upd H c' (CodeN c' q P')) P' (.tbl #[])) st := hh2.new1 nPb
    have hp3 : upd (upd H c' (CodeN c' q P')) P' (.tbl #[]) P = some (.tbl ps) := by rw [upd_ne (ne_of_none hp nP), upd_ne (ne_of_none hp nc)]; exact hp
    have sw : H1 = upd (upd (upd H c' (CodeN c' q P')) P' (.tbl #[])) P (.tbl (ps ++ #[rawInt pos.line, rawInt pos.col, .ref c'])) := by
      rw [e]
      funext b
      have d1 : P ≠ c' := ne_of_none hp nc
      have d2 : P ≠ P' := ne_of_none hp nP
      by_cases b1 : b = P
      · rw [b1, upd_ne d2, upd_ne d1, upd_same, upd_same]
      · by_cases b2 : b = P'
        · rw [b2, upd_same, upd_ne (Ne.symm d2), upd_same]
        · by_cases b3 : b = c'
          · rw [b3, upd_ne (Ne.symm hne), upd_same, upd_ne (Ne.symm d1), upd_ne (Ne.symm hne), upd_same]
          · rw [upd_ne b2, upd_ne b3, upd_ne b1, upd_ne b1, upd_ne b2, upd_ne b3]
    have old : ∀ c p, ¬ W.U c → H c = some (.ext p) → H1 c = some (.ext p) := fun c p nu z => by
      rw [e, upd_ne (ne_of_none z nP), upd_ne (ne_of_none z nc), upd_ne (a := P) (b := c) fun y => nu (y ▸ u)]
      exact z
    have hw := hh3.wr (o' := .tbl (ps ++ #[rawInt pos.line, rawInt pos.col, .ref c'])) (c := .tabG x q l m made) u hP hp3 ⟨u, ea, _, upd_same, triples_app h2, fun p2 cv hc => ?_, fun hm p2 hat => ?_⟩
    · have es : st.set j (.tabG x q l m made) = st := by
        apply List.ext_getElem?
        intro i
        by_cases z : i = j
        · subst z
          rw [List.getElem?_set_self (List.getElem?_eq_some_iff.mp hj).1, hj]
        · rw [List.getElem?_set_ne (Ne.symm z)]
      rw [sw]
      rwa [es] at hw
    · rw [← sw]
      rw [eL] at hc
      rcases among_app2 _ h2 hc with z | ⟨z, z1, z2⟩
      · obtain ⟨c0, q1, q2, q3⟩ := h3 p2 cv z
        refine ⟨c0, q1, q2, ?_⟩
        rcases q3 with ⟨n, P2, q4⟩ | ⟨n, j2, P2, q4, q5, q6⟩
        · exact .inl ⟨n, P2, old _ _ q2 q4⟩
        · exact .inr ⟨n, j2, P2, q4, q5, old _ _ q2 q6⟩
      · exact ⟨c', z, hh.fresh nc, .inl ⟨fun y => hpos ⟨by rw [← z1]; exact y.1, by rw [← z2]; exact y.2⟩, P', hc1⟩⟩
    · obtain ⟨cv, z⟩ := h4 hm p2 hat
      rw [eL]
      exact ⟨cv, among_keep _ _ h2 z⟩
/-- made at the place that is watched -/
theorem holds_grownN (hh : Holds K W H st) (hj : st[j]? = some (.tabG x q l m made)) (hP : W.mu[j]? = some P) (hp : H P = some (.tbl ps)) (hpos : pos.line = l ∧ pos.col = m) (g : GrownX H H1 P c' q ps pos) :
    (∃ n P', made = some n ∧ H1 = H ∧ W.mu[n]? = some P' ∧ ¬ W.U c' ∧ H c' = some (CodeN c' q P')) ∨
    (made = none ∧ ∃ (W1 : Wd) (P' : Addr), Ext W W1 H H1 ∧ Holds K W1 H1 (st.set j (.tabG x q l m (some st.length)) ++ [.tabG none qi 0 0 none]) ∧ W1.mu[st.length]? = some P' ∧ ¬ W1.U c' ∧ H1 c' = some (CodeN c' q P')) := by
  obtain ⟨u, ea, ps0, h1, h2, h3, h4⟩ := hh.cell j _ P hj hP
  rw [hp] at h1
  cases h1
  rcases g with ⟨e, hc⟩ | ⟨hnf, nc, P', nP, hne, e⟩
  · obtain ⟨c0, q1, q2, q3⟩ := h3 pos _ hc
    cases q1
    rcases q3 with ⟨n, _⟩ | ⟨_, n, P', q4, q5, q6⟩
    · exact absurd hpos n
    · exact .inl ⟨n, P', q4, e, q5, q2, q6⟩
  · have em : made = none := by
      cases hmd : made with
      | none => rfl
      | some n =>
        obtain ⟨cv, z⟩ := h4 (by rw [hmd]; simp) pos hpos
        rw [hnf] at z
        cases z
    subst em
    refine .inr ⟨rfl, (W.with P').cell P', P', ?_⟩
    have eL : (ps ++ #[rawInt pos.line, rawInt pos.col, .ref c']).toList = ps.toList ++ [rawInt pos.line, rawInt pos.col, .ref c'] := by simp
    have hh2 : Holds K W (upd H c' (CodeN c' q P')) st := hh.new1 nc
    have nPb : upd H c' (CodeN c' q P') P' = none := by rw [upd_ne hne]; exact nP
    have xa : Ext W W H (upd H c' (CodeN c' q P')) := Ext.new1 nc
    have xb : Ext W ((W.with P').cell P') (upd H c' (CodeN c' q P')) (upd (upd H c' (CodeN c' q P')) P' (.tbl #[])) := (Ext.with (o := .tbl #[]) nPb).cell nPb
    have hh3 : Holds K ((W.with P').cell P') (upd (upd H c' (CodeN c' q P')) P' (.tbl #[])) (st ++ [.tabG none qi 0 0 none]) :=
      (hh2.with (o := .tbl #[]) nPb).cell' (.inr rfl) (fun mm => hh2.muDom P' nPb mm) ⟨.inr rfl, (fun y z => by cases z), #[], upd_same, trivial, (fun p2 cv hc => by
        have z : codeAmong p2 [] = some cv := hc
        simp [codeAmong] at z), fun z => absurd rfl z⟩
    have hp3 : upd (upd H c' (CodeN c' q P')) P' (.tbl #[]) P = some (.tbl ps) := by rw [upd_ne (ne_of_none hp nP), upd_ne (ne_of_none hp nc)]; exact hp
    have hjl : j < st.length := (List.getElem?_eq_some_iff.mp hj).1
    have hP3 : ((W.with P').cell P').mu[j]? = some P := by
      show (W.mu ++ [P'])[j]? = some P
      rw [List.getElem?_append_left (by rw [hh.len]; exact hjl)]
      exact hP
    have u3 : ((W.with P').cell P').U P := .inl u
    have hmn : ((W.with P').cell P').mu[st.length]? = some P' := by
      show (W.mu ++ [P'])[st.length]? = some P'
      rw [List.getElem?_append_right (by rw [hh.len]; exact Nat.le_refl _), hh.len, Nat.sub_self]
      rfl
    have d1 : P ≠ c' := ne_of_none hp nc
    have d2 : P ≠ P' := ne_of_none hp nP
    have sw : H1 = upd (upd (upd H c' (CodeN c' q P')) P' (.tbl #[])) P (.tbl (ps ++ #[rawInt pos.line, rawInt pos.col, .ref c'])) := by
      rw [e]
      funext b
      by_cases b1 : b = P
      · rw [b1, upd_ne d2, upd_ne d1, upd_same, upd_same]
      · by_cases b2 : b = P'
        · rw [b2, upd_same, upd_ne (Ne.symm d2), upd_same]
        · by_cases b3 : b = c'
          · rw [b3, upd_ne (Ne.symm hne), upd_same, upd_ne (Ne.symm d1), upd_ne (Ne.symm hne), upd_same]
          · rw [upd_ne b2, upd_ne b3, upd_ne b1, upd_ne b1, upd_ne b2, upd_ne b3]
    have hc1 : H1 c' = some (CodeN c' q P') := by rw [e, upd_ne (Ne.symm hne), upd_same]
    have nuc : ¬ ((W.with P').cell P').U c' := fun z => z.elim (fun z => hh.fresh nc z) fun z => hne z.symm
    have old : ∀ c p, ¬ W.U c → H c = some (.ext p) → ¬ ((W.with P').cell P').U c ∧ H1 c = some (.ext p) := fun c p nu z => by
      refine ⟨fun y => ?_, ?_⟩
      · rcases y with y | y
        · exact nu y
        · rw [y] at z
          rw [z] at nP
          cases nP
      · rw [e, upd_ne (ne_of_none z nP), upd_ne (ne_of_none z nc), upd_ne (a := P) (b := c) fun y => nu (y ▸ u)]
        exact z
    have hw := hh3.wr (o' := .tbl (ps ++ #[rawInt pos.line, rawInt pos.col, .ref c'])) (c := .tabG x q l m (some st.length)) u3 hP3 hp3 ⟨u3, ea, _, upd_same, triples_app h2, fun p2 cv hc => ?_, fun hm p2 hat => ?_⟩
    · refine ⟨?_, ?_, hmn, nuc, hc1⟩
      · have xw : Ext ((W.with P').cell P') ((W.with P').cell P') (upd (upd H c' (CodeN c' q P')) P' (.tbl #[])) (upd (upd (upd H c' (CodeN c' q P')) P' (.tbl #[])) P (.tbl (ps ++ #[rawInt pos.line, rawInt pos.col, .ref c']))) := Ext.wr u3 (List.mem_of_getElem? hP3) hp3
        rw [sw]
        exact (xa.trans xb).trans xw
      · rw [sw]
        rw [List.set_append_left _ _ hjl] at hw
        exact hw
    · rw [← sw]
      rw [eL] at hc
      rcases among_app2 _ h2 hc with z | ⟨z, z1, z2⟩
      · obtain ⟨c0, q1, q2, q3⟩ := h3 p2 cv z
        rcases q3 with ⟨n, P2, q4⟩ | ⟨n, j2, P2, q4, q5, q6⟩
        · exact ⟨c0, q1, (old _ _ q2 q4).1, .inl ⟨n, P2, (old _ _ q2 q4).2⟩⟩
        · cases q4
      · exact ⟨c', z, nuc, .inr ⟨⟨z1.trans hpos.1, z2.trans hpos.2⟩, st.length, P', rfl, hmn, hc1⟩⟩
    · rw [eL]
      exact among_new _ h2 (hat.1.trans hpos.1.symm) (hat.2.trans hpos.2.symm)
end
theorem isCd_codeN {c : Addr} {q : Str} {P : Addr} : IsCd (CodeN c q P) c q := fun _ w H h ok => by
  obtain ⟨⟨⟨oc, vs, t, h1, h2, h3⟩, _⟩, _, _⟩ := ok
  exact ⟨oc, vs, t, h1, h2, h3⟩
/-! ### the mirrors' steps -/
def tabX (j : Nat) (x q : Str) (l m : Nat) : M Unit := fun st => match st[j]? with
  | some (.tabG (some y) r l' m' _) => if (y == x && (r == q && (l' == l && m' == m))) = true then .ok () st else .stuck
  | _ => .stuck
def tabN (j : Nat) (x q : Str) (l m : Nat) (qi : Str) : M Nat := fun st => match st[j]? with
  | some (.tabG (some y) r l' m' made) => if (y == x && (r == q && (l' == l && m' == m))) = true then (match made with
    | some n => .ok n st
    | none => .ok st.length (st.set j (.tabG (some x) q l m (some st.length)) ++ [.tabG none qi 0 0 none])) else .stuck
  | _ => .stuck
def tabI (n : Nat) (qi : Str) : M Unit := fun st => match st[n]? with
  | some (.tabG none r l m _) => if (r == qi && (l == 0 && m == 0)) = true then .ok () st else .stuck
  | _ => .stuck
theorem tabX_cases (j : Nat) (x q : Str) (l m : Nat) (st : Store) : (∃ made, st[j]? = some (.tabG (some x) q l m made) ∧ tabX j x q l m st = .ok () st) ∨ tabX j x q l m st = .stuck := by
  unfold tabX
  split
  · rename_i y r l' m' made e
    by_cases h : (y == x && (r == q && (l' == l && m' == m))) = true
    · have h' := h
      simp only [Bool.and_eq_true, beq_iff_eq] at h'
      obtain ⟨rfl, rfl, rfl, rfl⟩ := h'
      exact .inl ⟨made, e, if_pos h⟩
    · exact .inr (if_neg h)
  · exact .inr rfl
theorem tabN_cases (j : Nat) (x q : Str) (l m : Nat) (qi : Str) (st : Store) : (∃ n, st[j]? = some (.tabG (some x) q l m (some n)) ∧ tabN j x q l m qi st = .ok n st) ∨
    (st[j]? = some (.tabG (some x) q l m none) ∧ tabN j x q l m qi st = .ok st.length (st.set j (.tabG (some x) q l m (some st.length)) ++ [.tabG none qi 0 0 none])) ∨ tabN j x q l m qi st = .stuck := by
  unfold tabN
  split
  · rename_i y r l' m' made e
    by_cases h : (y == x && (r == q && (l' == l && m' == m))) = true
    · have h' := h
      simp only [Bool.and_eq_true, beq_iff_eq] at h'
      obtain ⟨rfl, rfl, rfl, rfl⟩ := h'
      cases made with
      | some n => exact .inl ⟨n, e, if_pos h⟩
      | none => exact .inr (.inl ⟨e, if_pos h⟩)
    · exact .inr (.inr (if_neg h))
  · exact .inr (.inr rfl)
theorem tabI_cases (n : Nat) (qi : Str) (st : Store) : (∃ made, st[n]? = some (.tabG none qi 0 0 made) ∧ tabI n qi st = .ok () st) ∨ tabI n qi st = .stuck := by
  unfold tabI
  split
  · rename_i r l m made e
    by_cases h : (r == qi && (l == 0 && m == 0)) = true
    · have h' := h
      simp only [Bool.and_eq_true, beq_iff_eq] at h'
      obtain ⟨rfl, rfl, rfl⟩ := h'
      exact .inl ⟨made, e, if_pos h⟩
    · exact .inr (if_neg h)
  · exact .inr rfl
/-! ### the lambdas -/
section
variable {X : Cx} {j l m : Nat} {x q : Str} {params : Arguments} {body : Expr} {scope : Scope} {lpos : Pos}
theorem dlam_X (TB : TabB X.base X.mg (He.cT X.K (x, none)).1 (He.cT X.K (x, none)).2) (hcode : X.env.code = .ref (He.cT X.K (x, none)).1) (hq : X.env.qual ++ "<lambda>" = q) (hdef : defaultsOf params X.env = ([], []))
    (hfree : ∀ ok : X.Ok, ∀ y ∈ scope.names, y.2 = .free → ∃ c, X.env.cells.lookup y.1 = some c) (hpos : ¬ (lpos.line = l ∧ lpos.col = m)) : DLam X noR (tabX j x q l m) q params body scope lpos := by
  refine ⟨fun {pins σ H s W st E kk Q E'} I hh _ h hQ => ?_⟩
  rcases tabX_cases j x q l m st with ⟨made, hj, e⟩ | e
  · rw [e] at h
    obtain ⟨P, hP⟩ : ∃ P, W.mu[j]? = some P := ⟨_, List.getElem?_eq_getElem (by rw [hh.len]; exact (List.getElem?_eq_some_iff.mp hj).1)⟩
    obtain ⟨u, ea, ps, hp, ht, hcs, _⟩ := hh.cell j _ P hj hP
    have ea' := ea x rfl
    subst ea'
    refine lam_mkX I (TB.code.keeps I.bk) (TB.bm.keeps I.bk) TB.gP hcode hq hp ht (fun cv hc => let ⟨c, q1, _⟩ := hcs lpos cv hc; ⟨c, q1⟩) hdef (hfree I.ok) fun f c' pm' ctv H1 s' I1 gr hf hfn hfr => ?_
    obtain ⟨e1, hh1, nu, P', hco⟩ := holds_grownX hh hj hP hp hpos gr
    exact hQ f c' _ pm' ctv H1 s' W st I1 e1 hh1 (h W H1 e1 hh1) hf hfn hfr hco isCd_codeN nu
  · rw [e] at h
    exact h.elim
/-- what is known of the outer lambda's code object: its table is the n-th cell -/
def RPn (K : PySem.W.Frag) (q : Str) (n : Nat) (c' : Addr) (W : Wd) (H : Hp) : Prop := ∃ P', W.mu[n]? = some P' ∧ ¬ W.U c' ∧ H c' = some (CodeN c' q P')
theorem RPn.ext {K : PySem.W.Frag} {n : Nat} {c' : Addr} {W W' : Wd} {H H' : Hp} (e : Ext W W' H H') (h : RPn K q n c' W H) : RPn K q n c' W' H' := by
  obtain ⟨P', h1, h2, h3⟩ := h
  obtain ⟨t, em, _⟩ := e.mu
  exact ⟨P', by rw [em]; exact (List.getElem?_append_left (List.getElem?_eq_some_iff.mp h1).1).trans h1, (e.at h2 h3).1, (e.at h2 h3).2⟩
theorem dlam_N {qi : Str} (TB : TabB X.base X.mg (He.cT X.K (x, none)).1 (He.cT X.K (x, none)).2) (hcode : X.env.code = .ref (He.cT X.K (x, none)).1) (hq : X.env.qual ++ "<lambda>" = q) (hdef : defaultsOf params X.env = ([], []))
    (hfree : ∀ ok : X.Ok, ∀ y ∈ scope.names, y.2 = .free → ∃ c, X.env.cells.lookup y.1 = some c) (hpos : lpos.line = l ∧ lpos.col = m) : DLamG X (tabN j x q l m qi) (RPn X.K q) q params body scope lpos := by
  refine ⟨fun {pins σ H s W st E kk Q E'} I hh h hQ => ?_⟩
  have key : ∀ made, st[j]? = some (.tabG (some x) q l m made) → wpAny (model X.prog X.w) X.A (eval (.Lambda params body scope lpos) X.env) Q E' s := fun made hj => by
    obtain ⟨P, hP⟩ : ∃ P, W.mu[j]? = some P := ⟨_, List.getElem?_eq_getElem (by rw [hh.len]; exact (List.getElem?_eq_some_iff.mp hj).1)⟩
    obtain ⟨u, ea, ps, hp, ht, hcs, _⟩ := hh.cell j _ P hj hP
    have ea' := ea x rfl
    subst ea'
    refine lam_mkX I (TB.code.keeps I.bk) (TB.bm.keeps I.bk) TB.gP hcode hq hp ht (fun cv hc => let ⟨c, q1, _⟩ := hcs lpos cv hc; ⟨c, q1⟩) hdef (hfree I.ok) fun f c' pm' ctv H1 s' I1 gr hf hfn hfr => ?_
    rcases holds_grownN (qi := qi) hh hj hP hp hpos gr with ⟨n, P', em, eH, hmu, nu, hco⟩ | ⟨em, W1, P', e1, hh1, hmu, nu, hco⟩
    · subst eH
      rcases tabN_cases j x q l m qi st with ⟨n2, hj2, e⟩ | ⟨hj2, e⟩ | e
      · rw [hj, em] at hj2
        cases hj2
        rw [e] at h
        exact hQ f c' _ pm' ctv H1 s' W st n I1 Ext.refl hh (h W H1 Ext.refl hh) hf hfn hfr hco isCd_codeN ⟨P', hmu, nu, hco⟩
      · rw [hj, em] at hj2
        cases hj2
      · rw [e] at h
        exact h.elim
    · rcases tabN_cases j x q l m qi st with ⟨n2, hj2, e⟩ | ⟨hj2, e⟩ | e
      · rw [hj, em] at hj2
        cases hj2
      · rw [e] at h
        exact hQ f c' _ pm' ctv H1 s' W1 _ st.length I1 e1 hh1 (h W1 H1 e1 hh1) hf hfn hfr hco isCd_codeN ⟨P', hmu, nu, hco⟩
      · rw [e] at h
        exact h.elim
  rcases tabN_cases j x q l m qi st with ⟨n2, hj2, e⟩ | ⟨hj2, e⟩ | e
  · exact key _ hj2
  · exact key _ hj2
  · rw [e] at h
    exact h.elim
/-- the inner lambda, in the outer one's body -/
theorem dlam_I {n : Nat} {qo qi : Str} {c' P0 : Addr} (hB : X.base.BuiltinsAt X.mg P0) (hcode : X.env.code = .ref c') (hq : X.env.qual ++ "<lambda>" = qi) (hdef : defaultsOf params X.env = ([], []))
    (hfree : ∀ ok : X.Ok, ∀ y ∈ scope.names, y.2 = .free → ∃ c, X.env.cells.lookup y.1 = some c) (hpos : ¬ (lpos.line = 0 ∧ lpos.col = 0)) : DLam X (RPn X.K qo n c') (tabI n qi) qi params body scope lpos := by
  refine ⟨fun {pins σ H s W st E kk Q E'} I hh hR h hQ => ?_⟩
  rcases tabI_cases n qi st with ⟨made, hj, e⟩ | e
  · rw [e] at h
    obtain ⟨P, hP, nuc, hco0⟩ := hR
    obtain ⟨u, ea, ps, hp, ht, hcs, _⟩ := hh.cell n _ P hj hP
    have hcd : CodeHd s.heap c' P := (I.hok c' _ hco0).1.2
    have hP' : s.heap.get? P = some { cls := .none, data := .fields ps } := I.hok P _ hp
    have bP0 : s.heap.BuiltinsAt X.mg P0 := hB.keeps I.bk
    have gP : mainGlobals ≠ P := fun z => by
      obtain ⟨o, es, ep, eg, dd, _⟩ := I.mod.glob.keeps I.bk
      rw [z, hP'] at eg
      cases eg
      cases dd
    have bP : s.heap.BuiltinsAt X.mg P := by
      obtain ⟨bm, ob, b1, b2, b3, b4, b5, b6, b7, b8⟩ := bP0
      refine ⟨bm, ob, b1, b2, b3, fun z => ?_, b5, b6, b7, b8⟩
      rw [z, hP'] at b5
      cases b5
      cases b6
    refine lam_mkX I hcd bP gP hcode hq hp ht (fun cv hc => let ⟨c, q1, _⟩ := hcs lpos cv hc; ⟨c, q1⟩) hdef (hfree I.ok) fun f c2 pm' ctv H1 s' I1 gr hf hfn hfr => ?_
    obtain ⟨e1, hh1, nu, P2, hco⟩ := holds_grownX hh hj hP hp hpos gr
    exact hQ f c2 _ pm' ctv H1 s' W st I1 e1 hh1 (h W H1 e1 hh1) hf hfn hfr hco isCd_codeN nu
  · rw [e] at h
    exact h.elim
end
end DX
set_option maxHeartbeats 4000000
/-! DX17: what joins them: levels, the facts' Bools, the start. -/
namespace DX
open PySem PySem.Spec PySem.Calls PyProof.Rows L2 DL DH LamX

section
variable {P : Program} {w : World} {K : PySem.W.Frag} {mg : Str → Option Value} {base : Heap} {k k' : Nat} {C m x qual : Str} {mf : List D → M D} {params : Arguments} {body : List Stmt} {scope : Scope} {kws : List (Str × V)} {f : Addr} {fd : FuncData} {N ps : List Str}
theorem fnR_mono {CX : CXT} {sp : Sp} (F : FnR P w K mg base CX k f sp) (h : k ≤ k') : FnR P w K mg base CX k' f sp := fun A outer s H us vs Q E hr => F A outer s H us vs Q E (hr.mono h)
theorem fnH_mono {CX : CXT} {sp : Sp} (F : L2H.FnH P w K mg base CX k f fd ps sp) (h : k ≤ k') : L2H.FnH P w K mg base CX k' f fd ps sp := ⟨F.len, fun A outer s H args us vs Q E p hr => F.run A outer s H args us vs Q E p (hr.mono h)⟩
theorem MakD.mono (F : MakD P w K mg base k C mf) (h : k ≤ k') : MakD P w K mg base k' C mf := ⟨let ⟨g, a, b⟩ := F.ex; ⟨g, a, fnR_mono b h⟩, F.mg⟩
theorem MetD.spc (F : MetD P w K mg base k C m mf) : SpcD P w K mg base k C m mf := ⟨let ⟨g, a, b⟩ := F.ex; ⟨g, a.at_, a.fn, b⟩⟩
/-- a method called while an error is handled -/
theorem fnH_body {T : Type} {eN : T → List Sl} {mB : List D → M (Fl T Empty)} (F : FunD K x qual params body scope [] kws f fd) (S : FnScope N ps scope)
    (hbody : ∀ (cdv : Value) (A : Around) (outer : List Env) (s : Shared) (H : Hp) (E : XK) (p : Addr × Obj) (ds : List D), ds.length = ps.length → L2H.RoomH k (A.deeper (envOfC qual scope s.heap.objs.size f cdv)) →
      DB (L2H.cxH (L2N.CX P w) P w K mg base N qual scope f cdv A outer s H E p) E (startD N ds) body eN eE (mB ds)) : L2H.FnH P w K mg base (L2N.CX P w) (k + 1) f fd ps (SpD K ps.length fun ds => mB ds >>= retM) := by
  obtain ⟨oc, od, dV, kV, doc, pm, an, cdv, ct, osl, rfl, lk, hcd, _, _⟩ := F.ex
  refine L2H.fn_ofH lk hcd S (fun vs H Q E h => h.1) (fun A outer s H vs Q E p hot hr h => ?_)
  obtain ⟨hl, W, st, ds, hh, r, h⟩ := h
  refine ⟨_, (hbody cdv A outer s H E p ds (r.length.symm.trans hl) hr).pss, W, st, hh, Slots.start r, ?_⟩
  refine (After.bind h).mono fun fl W1 H1 st1 _ e1 hh1 h1 => ?_
  cases fl with
  | next s => exact fun σ' _ => After.pure' h1 hh1 _ rfl
  | ret d => exact fun v r => After.pure' h1 hh1 v r
  | brk t => exact t.elim
  | cnt t => exact t.elim
theorem fnH_to {CX : CXT} {sp sp' : Sp} (F : L2H.FnH P w K mg base CX k f fd ps sp) (h : ∀ vs H Q E, sp' vs H Q E → sp vs H Q E) : L2H.FnH P w K mg base CX k f fd ps sp' :=
  ⟨fun vs H Q E q => F.len vs H Q E (h _ _ _ _ q), fun A outer s H args us vs Q E p hr hot hp e0 hb r q => F.run A outer s H args us vs Q E p hr hot hp e0 hb r (h _ _ _ _ q)⟩
theorem spD_to {n : Nat} {mf mg' : List D → M D} (h : ∀ ds, ds.length = n → mf ds = mg' ds) (vs : List V) (H : Hp) (Q : VK) (E : XK) (q : SpD K n mf vs H Q E) : SpD K n mg' vs H Q E := by
  obtain ⟨hl, W, st, ds, hh, r, h2⟩ := q
  refine ⟨hl, W, st, ds, hh, r, ?_⟩
  rw [← h ds (r.length.symm.trans hl)]
  exact h2
end
section
variable {X : Cx} {E : DL.St → XK} {σd : List Sl} {e : Expr} {me : M D}
/-- nothing more known -/
theorem pe_rp {EE : XK} (h : DE X (fun _ => EE) σd e me) : PE X e (fun σ G Q => ∃ (W : Wd) (st : Store), Holds X.K W G st ∧ Slots X.K W G σd σ ∧ True ∧ Fin X.K W G EE (me st) Q) := pe_imp h.pe fun σ H Q ⟨W, st, hh, hs, _, h1⟩ => ⟨W, st, hh, hs, h1⟩
theorem de_rp (h : PE X e (fun σ H Q => ∃ (W : Wd) (st : Store), Holds X.K W H st ∧ Slots X.K W H σd σ ∧ noR W H ∧ Fin X.K W H (E σ) (me st) Q)) : DE X E σd e me := ⟨pe_imp h fun σ H Q ⟨W, st, hh, hs, h1⟩ => ⟨W, st, hh, hs, True.intro, h1⟩⟩
end
def neqB (K : PySem.W.Frag) (C : Addr) : Bool := He.eqO (PySem.W.findIn K (.ref C) "__ne__") (some (some (.builtin "object.__ne__"))) && decide (PySem.W.mroIn K C (.type "object") = some true)
theorem neqB_ok {K : PySem.W.Frag} {C : Addr} (h : neqB K C = true) : NeqC K C := by
  obtain ⟨h1, h2⟩ := band h
  exact ⟨He.eqO_ok h1, of_decide_eq_true h2⟩
def isiB (K : PySem.W.Frag) (C : Addr) : Bool := He.eqO (PySem.W.findIn K (.ref C) "__class__") (some (some (.builtin "object.__class__"))) && (He.eqO (PySem.W.specialIn K (.builtin "object.__class__") "__get__") (some (some (.builtin "getset_descriptor.__get__"))) &&
  (decide (PySem.W.takesIn K (.builtin "object.__class__") = some true) && decide (PySem.W.mroIn K C (.type "object") = some true)))
theorem isiB_ok {K : PySem.W.Frag} {C : Addr} (h : isiB K C = true) (c : Cls K C) : IsiC K C := by
  obtain ⟨h1, h⟩ := band h
  obtain ⟨h2, h⟩ := band h
  obtain ⟨h3, h4⟩ := band h
  exact ⟨c, He.eqO_ok h1, He.eqO_ok h2, of_decide_eq_true h3, of_decide_eq_true h4⟩
/-- the law is called; some tables are watched -/
theorem sp_startX {K : PySem.W.Frag} {H : Hp} {a : Addr} {ns : List Int} {tabs : List (Str × Str)} {cf : Str × Str → Cell} {m : D → M D} (nd : (tabs.map fun t => (He.cT K (t.1, none)).2).Nodup) (hT : ∀ t ∈ tabs, H (He.cT K (t.1, none)).2 = some (.tbl #[])) (hS : SqL K H a (ns.map V.int))
    (hcf : ∀ t ∈ tabs, cf t = .tab t.1 t.2 ∨ ∃ l n, cf t = .tabG (some t.1) t.2 l n none) (hm : ∃ st', m (.scr ns) (tabs.map cf) = .ok (.bl true) st') : SpD K 1 (mk1 m) [.ref a] H (fun v _ => v = .bl true) fun _ _ _ => False := by
  obtain ⟨st', hm⟩ := hm
  refine ⟨rfl, ⟨tabs.map fun t => (He.cT K (t.1, none)).2, fun b => b ∈ tabs.map fun t => (He.cT K (t.1, none)).2⟩, tabs.map cf, [.scr ns], ?_, ⟨_, _, rfl, ?_, rfl⟩, ?_⟩
  · refine ⟨by simp, nd, fun b hb => ?_, fun b hb => ?_, fun i c b h1 h2 => ?_⟩
    · obtain ⟨t, ht, rfl⟩ := List.mem_map.mp hb
      exact ⟨_, hT t ht⟩
    · obtain ⟨t, ht, rfl⟩ := List.mem_map.mp hb
      exact ⟨_, hT t ht⟩
    · rw [List.getElem?_map] at h1 h2
      cases q : tabs[i]? with
      | none => rw [q] at h1; cases h1
      | some t =>
        rw [q] at h1 h2
        cases h1
        cases h2
        have ht := List.mem_of_getElem? q
        rcases hcf t ht with e | ⟨l, n, e⟩
        · rw [e]
          exact ⟨List.mem_map.mpr ⟨t, ht, rfl⟩, rfl, #[], hT t ht, trivial, fun pos cv hc => by
            have z : codeAmong pos [] = some cv := hc
            simp [codeAmong] at z⟩
        · rw [e]
          exact ⟨List.mem_map.mpr ⟨t, ht, rfl⟩, fun y z => by cases z; rfl, #[], hT t ht, trivial, fun pos cv hc => by
            have z : codeAmong pos [] = some cv := hc
            simp [codeAmong] at z, fun z => absurd rfl z⟩
  · have nu : (∃ o, (o = HO.lst (ns.map V.int) ∨ ∃ ob, o = .frz ob (.lst (ns.map V.int))) ∧ H a = some o) → a ∉ tabs.map fun t => (He.cT K (t.1, none)).2 := fun ⟨o, ho, e⟩ hm => by
      obtain ⟨t, ht, rfl⟩ := List.mem_map.mp hm
      rw [hT t ht] at e
      cases e
      rcases ho with ho | ⟨_, ho⟩ <;> cases ho
    rcases hS with h1 | h1
    · have h2 : ∃ o, (o = HO.lst (ns.map V.int) ∨ ∃ ob, o = .frz ob (.lst (ns.map V.int))) ∧ H a = some o := by
        rcases h1 with h1 | ⟨o, h1⟩
        · exact ⟨_, .inl rfl, h1⟩
        · exact ⟨_, .inr ⟨o, rfl⟩, h1⟩
      exact ⟨a, rfl, .inl ⟨nu h2, h2⟩⟩
    · exact ⟨a, rfl, .inr (.inr h1)⟩
  · show After K _ H _ (mk1 m [.scr ns] _) _
    have e : mk1 m [.scr ns] (tabs.map cf) = .ok (.bl true) st' := hm
    rw [e]
    exact fun W' H' _ _ v r => r
end DX
set_option maxHeartbeats 4000000
/-! DX18: sorted of a tuple of one datum at most. -/
namespace PySem.W
open PySem PySem.Spec PySem.Calls PyProof.Rows L2
section
variable {prog : Program} {w : World} {A : Around} {E : Value → Shared → Prop} {s : Shared}
theorem collect_tup {l : Addr} {vs : List Value} {Q : List Value → Shared → Prop} (hl : IsTup s.heap l vs.toArray)
    (h : Q vs { s with heap := (s.heap.push (seqObj "list" #[] 0)).update s.heap.objs.size (Obj.mapSeq (· ++ vs.toArray)) }) (hsz : vs.length ≤ sizeLine) :
    wpAny (model prog w) A (collect (.ref l)) Q E s := by
  obtain ⟨o, ho, hc, n, hd⟩ := id hl
  unfold collect
  refine wpAny_bind (wpAny_runValue (codeAny_builtin entry_proto_collect' ?_))
  show wpAny _ _ (do again (.builtin "list.__iadd__" ⟨[← newList [], .ref l], []⟩)) _ _ s
  refine wpAny_bind (wpAny_newList (wpAny_pure ⟨Code.quiet_builtin _ (by decide +kernel), codeAny_builtin entry_list_iadd' ?_⟩))
  show wpAny _ _ (Builtin.List.listExtendWith (.ref s.heap.objs.size) (.ref l) (.ref s.heap.objs.size)) _ _ { s with heap := s.heap.push (seqObj "list" #[] 0) }
  unfold Builtin.List.listExtendWith
  have ho' : (s.heap.push (seqObj "list" #[] 0)).get? l = some o := Heap.get?_push_of_some _ ho
  refine wpAny_bind (wpAny_typeOf (T := "tuple") ⟨o, ho', hc⟩ ?_)
  have ht : (Value.type "tuple" == Value.type "tuple") = true := by rfl
  rw [if_pos (by rw [ht]; simp)]
  refine wpAny_bind (listItems_at ho' hd ?_)
  refine wpAny_bind (listItems_at (xs := #[]) (n := 0) (Heap.get?_push_size _ rfl) rfl ?_)
  rw [if_neg (by simp)]
  refine wpAny_bind (listUpdate_at (xs := #[]) (n := 0) (Heap.get?_push_size _ rfl) rfl ?_ (Nat.zero_le _) (by show (#[] ++ vs.toArray).size ≤ sizeLine + 1; simp only [Array.size_append, List.size_toArray, List.length_nil]; omega))
  refine wpAny_pure ?_
  show wpAny (model prog w) A (do
      let o ← load s.heap.objs.size
      match o.data with
      | .seq xs _ => pure xs.toList
      | _ => unsupported "internal:collect") Q E { s with heap := (s.heap.push (seqObj "list" #[] 0)).update s.heap.objs.size (Obj.mapSeq (· ++ vs.toArray)) }
  refine wpAny_bind (wpAny_load (get?_update_seq (Heap.get?_push_size _ rfl) _) ?_)
  show wpAny _ _ (pure ((#[] : Array Value) ++ vs.toArray).toList) Q E _
  rw [show ((#[] : Array Value) ++ vs.toArray).toList = vs by simp]
  exact wpAny_pure h
theorem sorted_tup {l : Addr} {vs : List Value} {Q : Value → Shared → Prop} (hl : IsTup s.heap l vs.toArray) (hL : vs.length ≤ sizeLine)
    (body : ∀ E' : Value → Shared → Prop, wpAny (model prog w) A.in1.in1 (Builtin.«list.sort» ⟨[.ref (s.heap.objs.size + 1)], []⟩) (fun f s' => f = .done (.ret .none) ∧ Q (.ref (s.heap.objs.size + 1)) s') E' { s with heap := copyHeap s.heap vs }) :
    wpAny (model prog w) A (call (.builtin "sorted") [.ref l]) Q E s := by
  refine call_function_entry_kw kind_sorted plain_sorted entry_sorted (args_sorted1 _) ?_
  unfold Builtin.«sorted»
  refine wpAny_bind (m := checkCount "sorted" 1 1 _) (wpAny_pure ?_)
  refine wpAny_bind (collect_tup hl ?_ hL)
  refine wpAny_bind (wpAny_newList ?_ hL)
  have hsz : ((s.heap.push (seqObj "list" #[] 0)).update s.heap.objs.size (Obj.mapSeq (· ++ vs.toArray))).objs.size = s.heap.objs.size + 1 := by
    rw [Heap.size_update, size_push']
  show wpAny _ _ _ _ _ { s with heap := copyHeap s.heap vs }
  rw [hsz]
  refine wpAny_bind (wpAny_holding (wpAny_call_entry_kw slot_list_sort ⟨_, copyHeap_at s.heap vs, rfl⟩ entry_list_sort ?body (args_list_sort _)))
  case body =>
    show wpAny (model prog w) A.in1.in1 (Builtin.«list.sort» ⟨[.ref (s.heap.objs.size + 1)], []⟩) _ _ _
    refine wpAny_mono (body _) (fun f s' hf => ?_) fun _ _ e => e
    obtain ⟨rfl, hq⟩ := hf
    exact ⟨_, rfl, wpAny_pure ⟨_, rfl, hq⟩⟩
end
end PySem.W

namespace DX
open PySem PySem.Spec PySem.Calls PyProof.Rows L2 DL DH
theorem sorted_fewT {prog : Program} {w : World} {A : Around} {E : Value → Shared → Prop} {s : Shared} {β : Type} {vs : List Value} {bs : List β} {enc : β → PyData} {R : Value → β → Prop} {l : Addr} {Q : Value → Shared → Prop} (hl : IsTup s.heap l vs.toArray) (e : PySem.W.EachIs R vs bs) (er : PySem.W.EachIs (fun v b => ∃ as, Reads s.heap v (enc b) as) vs bs) (hal : PySem.W.AllAlike (bs.map enc)) (h1 : bs.length ≤ 1) (hn : ∀ b ∈ bs, enc b ≠ .none) (hL : bs.length ≤ sizeLine) (hu : ∀ b, b ∈ bs → A.units + 2 + (enc b).depth < cLine)
    (h : ∀ out, out.length = bs.length → PySem.W.EachIs R out (bs.mergeSort (PySem.W.dataLe false enc)) → Q (.ref (s.heap.objs.size + 1)) { s with heap := PyProof.Rows.sortedAll s.heap vs (List.toArray out) }) : wpAny (model prog w) A (call (.builtin "sorted") [.ref l]) Q E s := by
  have er2 : PySem.W.EachIs (fun v b => ∃ as, Reads (PySem.W.sortingHeap (PySem.W.copyHeap s.heap vs) (s.heap.objs.size + 1) vs) v (enc b) as) vs bs := er.mono fun _ _ ⟨as, r⟩ => ⟨as, PyProof.Rows.Reads.keeps (fun _ _ => PySem.W.sorting_copy_old) r⟩
  have em : PySem.W.EachIs (fun v d => ∃ as, Reads (PySem.W.sortingHeap (PySem.W.copyHeap s.heap vs) (s.heap.objs.size + 1) vs) v d as) vs (bs.map enc) := PySem.W.each_map enc er2
  have hLv : vs.length ≤ sizeLine := by rw [e.length]; exact hL
  refine PySem.W.sorted_tup hl hLv fun E' => PySem.W.list_sort_vals (s := { s with heap := PySem.W.copyHeap s.heap vs }) (PySem.W.copyHeap_at s.heap vs) (few_sorts (s := { s with heap := PySem.W.sortingHeap (PySem.W.copyHeap s.heap vs) (s.heap.objs.size + 1) vs }) em hal (by rw [List.length_map]; exact h1) (fun d hd => ?_) (PySem.W.bound_map hu)) hLv ⟨rfl, h _ (by rw [PySem.W.sortVals_length false rfl]; exact e.length) (PySem.W.sortVals_data false e er2 hal)⟩
  obtain ⟨b, hb, rfl⟩ := List.mem_map.mp hd
  exact hn b hb
def rSort1 (K : PySem.W.Frag) : List V → Hp → VK → Prop := fun vs H Q => ∃ (a : Addr) (i : Int), vs = [V.ref a] ∧ SqT K H a [.int i] ∧ ∀ q, H q = none → Q (.ref q) (upd H q (.lst [.int i]))
theorem cr_sort1 {X : Cx} (hu : X.A.units + 65 < cLine) : CallR X (.builtin "sorted") (rSort1 X.K) := by
  rintro pins s σ H vs us Q I r ⟨a, i, rfl, hs, q⟩
  obtain ⟨its, rv, hl, hz⟩ := I.tuple hs
  obtain ⟨u, rfl, ru⟩ := vals1 r
  obtain rfl : u = Value.ref a := ru
  obtain ⟨u1, rfl, ru1⟩ := vals1 rv
  obtain ⟨t, rfl⟩ := (show ∃ t, u1 = Value.int i t from ru1)
  refine sorted_fewT (bs := [i]) (enc := fun z => PyData.int z) (R := fun u z => RelV (.int z) u) hl (.cons ⟨t, rfl⟩ .nil) (.cons ⟨_, Reads.int i t⟩ .nil) (fun d hd d' hd' => ?_) (Nat.le_refl 1) (fun b _ => by simp) (by rw [sizeLine_eq]; exact (by decide : (1 : Nat) ≤ 16777216)) (fun b _ => ?_) fun out ho eo => ?_
  · simp only [List.map_cons, List.map_nil, List.mem_singleton] at hd hd'
    subst hd hd'
    rfl
  · show X.A.units + 2 + PyData.depth (.int b) < cLine
    rw [PyData.depth]
    omega
  · obtain ⟨ep, he'⟩ := PyProof.Rows.sortedAll_at s.heap [.int i t] (List.toArray out)
    rw [List.mergeSort_singleton] at eo
    have ev : Vals [V.int i] out := by
      cases eo with
      | cons r r2 =>
        cases r2
        exact .cons r .nil
    exact ⟨.ref (s.heap.objs.size + 1), upd H (s.heap.objs.size + 1) (.lst [.int i]), I.laid (t' := s.toks) (fun _ _ => PyProof.Rows.sortedAll_old) (Nat.le_succ _) ⟨by rw [sizeLine_eq]; exact (by decide : (1 : Nat) ≤ 16777216), out, ep, ev, he'⟩, rfl, q _ (I.hok.fresh (Nat.le_succ _))⟩
def dSort1 (fin : List D → M D) : D → M D
  | .tup [.int i] => fin [.int i]
  | _ => M.stuck
theorem rc_sort1 {K : PySem.W.Frag} {fin : List D → M D} (hf : FinOk K fin) : RC1 K (rSort1 K) (dSort1 fin) := by
  intro W H st x dx Q E hh rx h
  unfold dSort1 at h
  split at h
  · rename_i i
    obtain ⟨a, vs, rfl, ha, r'⟩ := Rep.tupSq rx
    obtain ⟨v, rr, rfl, r1, r2⟩ := r'
    have e1 : v = .int i := r1
    have e2 : rr = [] := r2
    subst e1 e2
    exact ⟨a, i, rfl, ha, fun q hq => hf.new (vs := [.int i]) (ds := [.int i]) hh hq (show (1 : Nat) ≤ 16777216 by decide) ⟨_, [], rfl, rfl, rfl⟩ h⟩
  · exact h.elim
end DX
set_option maxHeartbeats 0
namespace My
open PySem PySem.Spec PyProof.Rows L2 DL DH DX
def top (i : Nat) : Stmt := PySem.Challenge.pw_signpushes_k73_whole_attempts_at_desks.main.body.getD i (.Pass ⟨0, 0, 0, 0⟩)
def k_KNOWN_SIGNS : D := (.tup [(.str [43]), (.str [45]), (.str [48])])
structure Fx (P : Program) (w : World) (K : PySem.W.Frag) (mg : Str → Option Value) (base : Heap) : Prop where
  b_all : mg "all" = none
  b_bool : mg "bool" = none
  b_enumerate : mg "enumerate" = none
  b_int : mg "int" = none
  b_isinstance : mg "isinstance" = none
  b_len : mg "len" = none
  b_list : mg "list" = none
  b_max : mg "max" = none
  b_min : mg "min" = none
  b_range : mg "range" = none
  b_sorted : mg "sorted" = none
  b_str : mg "str" = none
  b_sum : mg "sum" = none
  b_tuple : mg "tuple" = none
  g__wall : mg "_wall" = some (.ref (He.ga K "_wall"))
  g_is_within : mg "is_within" = some (.ref (He.ga K "is_within"))
  g_is_known_sign : mg "is_known_sign" = some (.ref (He.ga K "is_known_sign"))
  g_is_row : mg "is_row" = some (.ref (He.ga K "is_row"))
  g_is_right_model : mg "is_right_model" = some (.ref (He.ga K "is_right_model"))
  g_is_place : mg "is_place" = some (.ref (He.ga K "is_place"))
  g_need_model : mg "need_model" = some (.ref (He.ga K "need_model"))
  g_need_quantity : mg "need_quantity" = some (.ref (He.ga K "need_quantity"))
  g_need_place : mg "need_place" = some (.ref (He.ga K "need_place"))
  g_unknown_places : mg "unknown_places" = some (.ref (He.ga K "unknown_places"))
  g_with_sign : mg "with_sign" = some (.ref (He.ga K "with_sign"))
  g__law_source : mg "_law_source" = some (.ref (He.ga K "_law_source"))
  g__law_pick : mg "_law_pick" = some (.ref (He.ga K "_law_pick"))
  g__law_chosen : mg "_law_chosen" = some (.ref (He.ga K "_law_chosen"))
  g__law_drawn_model : mg "_law_drawn_model" = some (.ref (He.ga K "_law_drawn_model"))
  g__law_look : mg "_law_look" = some (.ref (He.ga K "_law_look"))
  g__law_good : mg "_law_good" = some (.ref (He.ga K "_law_good"))
  g__law_bad : mg "_law_bad" = some (.ref (He.ga K "_law_bad"))
  g__law_word : mg "_law_word" = some (.ref (He.ga K "_law_word"))
  g__law_attempted : mg "_law_attempted" = some (.ref (He.ga K "_law_attempted"))
  g_law : mg "law" = some (.ref (He.ga K "law"))
  d__wall : ∃ fd, FunD K "_wall" "_wall" (defArgs (top 0)) (defBody (top 0)) (defScope (top 0)) [] [] (He.ga K "_wall") fd
  d_is_within : ∃ fd, FunD K "is_within" "is_within" (defArgs (top 14)) (defBody (top 14)) (defScope (top 14)) [] [] (He.ga K "is_within") fd
  d_is_known_sign : ∃ fd, FunD K "is_known_sign" "is_known_sign" (defArgs (top 15)) (defBody (top 15)) (defScope (top 15)) [] [] (He.ga K "is_known_sign") fd
  d_is_row : ∃ fd, FunD K "is_row" "is_row" (defArgs (top 16)) (defBody (top 16)) (defScope (top 16)) [] [] (He.ga K "is_row") fd
  d_is_right_model : ∃ fd, FunD K "is_right_model" "is_right_model" (defArgs (top 17)) (defBody (top 17)) (defScope (top 17)) [] [] (He.ga K "is_right_model") fd
  d_is_place : ∃ fd, FunD K "is_place" "is_place" (defArgs (top 18)) (defBody (top 18)) (defScope (top 18)) [] [] (He.ga K "is_place") fd
  d_need_model : ∃ fd, FunD K "need_model" "need_model" (defArgs (top 19)) (defBody (top 19)) (defScope (top 19)) [] [] (He.ga K "need_model") fd
  d_need_quantity : ∃ fd, FunD K "need_quantity" "need_quantity" (defArgs (top 20)) (defBody (top 20)) (defScope (top 20)) [] [] (He.ga K "need_quantity") fd
  d_need_place : ∃ fd, FunD K "need_place" "need_place" (defArgs (top 21)) (defBody (top 21)) (defScope (top 21)) [] [] (He.ga K "need_place") fd
  d_unknown_places : ∃ fd, FunD K "unknown_places" "unknown_places" (defArgs (top 22)) (defBody (top 22)) (defScope (top 22)) [] [] (He.ga K "unknown_places") fd
  d_with_sign : ∃ fd, FunD K "with_sign" "with_sign" (defArgs (top 23)) (defBody (top 23)) (defScope (top 23)) [] [] (He.ga K "with_sign") fd
  d__law_source : ∃ fd, FunD K "_law_source" "_law_source" (defArgs (top 29)) (defBody (top 29)) (defScope (top 29)) [] [] (He.ga K "_law_source") fd
  d__law_pick : ∃ fd, FunD K "_law_pick" "_law_pick" (defArgs (top 30)) (defBody (top 30)) (defScope (top 30)) [] [] (He.ga K "_law_pick") fd
  d__law_chosen : ∃ fd, FunD K "_law_chosen" "_law_chosen" (defArgs (top 31)) (defBody (top 31)) (defScope (top 31)) [] [] (He.ga K "_law_chosen") fd
  d__law_drawn_model : ∃ fd, FunD K "_law_drawn_model" "_law_drawn_model" (defArgs (top 32)) (defBody (top 32)) (defScope (top 32)) [] [] (He.ga K "_law_drawn_model") fd
  d__law_look : ∃ fd, FunD K "_law_look" "_law_look" (defArgs (top 33)) (defBody (top 33)) (defScope (top 33)) [] [] (He.ga K "_law_look") fd
  d__law_good : ∃ fd, FunD K "_law_good" "_law_good" (defArgs (top 34)) (defBody (top 34)) (defScope (top 34)) [] [] (He.ga K "_law_good") fd
  d__law_bad : ∃ fd, FunD K "_law_bad" "_law_bad" (defArgs (top 35)) (defBody (top 35)) (defScope (top 35)) [] [] (He.ga K "_law_bad") fd
  d__law_word : ∃ fd, FunD K "_law_word" "_law_word" (defArgs (top 36)) (defBody (top 36)) (defScope (top 36)) [] [] (He.ga K "_law_word") fd
  d__law_attempted : ∃ fd, FunD K "_law_attempted" "_law_attempted" (defArgs (top 37)) (defBody (top 37)) (defScope (top 37)) [] [] (He.ga K "_law_attempted") fd
  d_law : ∃ fd, FunD K "law" "law" (defArgs (top 38)) (defBody (top 38)) (defScope (top 38)) [] [] (He.ga K "law") fd
  v_KNOWN_SIGNS : mg "KNOWN_SIGNS" = some (.ref (He.ga K "KNOWN_SIGNS"))
  r_KNOWN_SIGNS : ∀ W H, Rep K W H (.ref (He.ga K "KNOWN_SIGNS")) k_KNOWN_SIGNS
  v_MOST_CALLS : ∃ t, mg "MOST_CALLS" = some (.int (60) t)
  v_MOST_QUANTITIES : ∃ t, mg "MOST_QUANTITIES" = some (.int (4) t)
  v_MOST_UNKNOWN : ∃ t, mg "MOST_UNKNOWN" = some (.int (4) t)
  v_UNKNOWN : ∃ t, mg "UNKNOWN" = some (.str "?" t)
  e_InvalidModel : ErrC K mg "InvalidModel"
  e_InvalidPlace : ErrC K mg "InvalidPlace"
  e_InvalidQuantity : ErrC K mg "InvalidQuantity"
  e_InvalidSign : ErrC K mg "InvalidSign"
  e_NothingToUndo : ErrC K mg "NothingToUndo"
  k_Desk : Cls K (He.ga K "Desk")
  k_Trial : Cls K (He.ga K "Trial")
  fl_Desk_now : ClsF K "Desk" "now"
  fl_Desk_past : ClsF K "Desk" "past"
  fl_Trial_desk : ClsF K "Trial" "desk"
  fl_Trial_now : ClsF K "Trial" "now"
  fl_Trial_past : ClsF K "Trial" "past"
  g_Desk : mg "Desk" = some (.ref (He.ga K "Desk"))
  g_Trial : mg "Trial" = some (.ref (He.ga K "Trial"))
  mk_Desk : Mk K (He.ga K "Desk") (He.ma K (He.ga K "Desk") "__init__")
  mk_Trial : Mk K (He.ga K "Trial") (He.ma K (He.ga K "Trial") "__init__")
  d_Desk___eq__ : ∃ fd, FunD K "__eq__" "Desk.__eq__" (defArgs (mem (top 27) 17)) (defBody (mem (top 27) 17)) (defScope (mem (top 27) 17)) [] [] (He.ma K (He.ga K "Desk") "__eq__") fd
  mt_Desk___eq__ : Meth K (He.ga K "Desk") "__eq__" (He.ma K (He.ga K "Desk") "__eq__")
  d_Desk_init : ∃ fd, FunD K "__init__" "Desk.__init__" (defArgs (mem (top 27) 1)) (defBody (mem (top 27) 1)) (defScope (mem (top 27) 1)) [] [] (He.ma K (He.ga K "Desk") "__init__") fd
  d_Desk___len__ : ∃ fd, FunD K "__len__" "Desk.__len__" (defArgs (mem (top 27) 14)) (defBody (mem (top 27) 14)) (defScope (mem (top 27) 14)) [] [] (He.ma K (He.ga K "Desk") "__len__") fd
  mt_Desk___len__ : Meth K (He.ga K "Desk") "__len__" (He.ma K (He.ga K "Desk") "__len__")
  d_Desk_attempt : ∃ fd, FunD K "attempt" "Desk.attempt" (defArgs (mem (top 27) 10)) (defBody (mem (top 27) 10)) (defScope (mem (top 27) 10)) [] [] (He.ma K (He.ga K "Desk") "attempt") fd
  mt_Desk_attempt : Meth K (He.ga K "Desk") "attempt" (He.ma K (He.ga K "Desk") "attempt")
  d_Desk_free : ∃ fd, FunD K "free" "Desk.free" (defArgs (mem (top 27) 7)) (defBody (mem (top 27) 7)) (defScope (mem (top 27) 7)) [] [] (He.ma K (He.ga K "Desk") "free") fd
  mt_Desk_free : Meth K (He.ga K "Desk") "free" (He.ma K (He.ga K "Desk") "free")
  d_Desk_held : ∃ fd, FunD K "held" "Desk.held" (defArgs (mem (top 27) 3)) (defBody (mem (top 27) 3)) (defScope (mem (top 27) 3)) [] [] (prA K (He.ga K "Desk") "held") fd
  pr_Desk_held : PropOf K (He.ga K "Desk") "held" (He.ma K (He.ga K "Desk") "held") (prA K (He.ga K "Desk") "held")
  d_Desk_hold : ∃ fd, FunD K "hold" "Desk.hold" (defArgs (mem (top 27) 6)) (defBody (mem (top 27) 6)) (defScope (mem (top 27) 6)) [] [] (He.ma K (He.ga K "Desk") "hold") fd
  mt_Desk_hold : Meth K (He.ga K "Desk") "hold" (He.ma K (He.ga K "Desk") "hold")
  d_Desk_keep : ∃ fd, FunD K "keep" "Desk.keep" (defArgs (mem (top 27) 4)) (defBody (mem (top 27) 4)) (defScope (mem (top 27) 4)) [] [] (He.ma K (He.ga K "Desk") "keep") fd
  mt_Desk_keep : Meth K (He.ga K "Desk") "keep" (He.ma K (He.ga K "Desk") "keep")
  d_Desk_know : ∃ fd, FunD K "know" "Desk.know" (defArgs (mem (top 27) 5)) (defBody (mem (top 27) 5)) (defScope (mem (top 27) 5)) [] [] (He.ma K (He.ga K "Desk") "know") fd
  mt_Desk_know : Meth K (He.ga K "Desk") "know" (He.ma K (He.ga K "Desk") "know")
  d_Desk_lines : ∃ fd, FunD K "lines" "Desk.lines" (defArgs (mem (top 27) 11)) (defBody (mem (top 27) 11)) (defScope (mem (top 27) 11)) [] [] (He.ma K (He.ga K "Desk") "lines") fd
  mt_Desk_lines : Meth K (He.ga K "Desk") "lines" (He.ma K (He.ga K "Desk") "lines")
  d_Desk_model : ∃ fd, FunD K "model" "Desk.model" (defArgs (mem (top 27) 2)) (defBody (mem (top 27) 2)) (defScope (mem (top 27) 2)) [] [] (prA K (He.ga K "Desk") "model") fd
  pr_Desk_model : PropOf K (He.ga K "Desk") "model" (He.ma K (He.ga K "Desk") "model") (prA K (He.ga K "Desk") "model")
  d_Desk_undo : ∃ fd, FunD K "undo" "Desk.undo" (defArgs (mem (top 27) 9)) (defBody (mem (top 27) 9)) (defScope (mem (top 27) 9)) [] [] (He.ma K (He.ga K "Desk") "undo") fd
  mt_Desk_undo : Meth K (He.ga K "Desk") "undo" (He.ma K (He.ga K "Desk") "undo")
  d_Trial___enter__ : ∃ fd, FunD K "__enter__" "Trial.__enter__" (defArgs (mem (top 26) 1)) (defBody (mem (top 26) 1)) (defScope (mem (top 26) 1)) [] [] (He.ma K (He.ga K "Trial") "__enter__") fd
  mt_Trial___enter__ : Meth K (He.ga K "Trial") "__enter__" (He.ma K (He.ga K "Trial") "__enter__")
  d_Trial___exit__ : ∃ fd, FunD K "__exit__" "Trial.__exit__" (defArgs (mem (top 26) 2)) (defBody (mem (top 26) 2)) (defScope (mem (top 26) 2)) [] [] (He.ma K (He.ga K "Trial") "__exit__") fd
  mt_Trial___exit__ : Meth K (He.ga K "Trial") "__exit__" (He.ma K (He.ga K "Trial") "__exit__")
  d_Trial_init : ∃ fd, FunD K "__init__" "Trial.__init__" (defArgs (mem (top 26) 0)) (defBody (mem (top 26) 0)) (defScope (mem (top 26) 0)) [] [] (He.ma K (He.ga K "Trial") "__init__") fd
  ef_TooMany : ErrF P w K mg base "TooMany" "limit"
  nq_Desk : NeqC K (He.ga K "Desk")
  ii_Desk : IsiC K (He.ga K "Desk")
  we : WordE K mg
  t__law_bad : LamX.TabB base mg (He.cT K ("_law_bad", none)).1 (He.cT K ("_law_bad", none)).2
  t__law_attempted : LamX.TabB base mg (He.cT K ("_law_attempted", none)).1 (He.cT K ("_law_attempted", none)).2
  t_law : LamX.TabB base mg (He.cT K ("law", none)).1 (He.cT K ("law", none)).2
variable {P : Program} {w : World} {K : PySem.W.Frag} {mg : Str → Option Value} {base : Heap}
def mB__wall (v_k : D) : M (Fl Unit Empty) :=
  (whileM (fun (s1 : Unit) => ((pure (.bl true) : M D) >>= asB)) (fun (s1 : Unit) => (pure (.next ()))) 400 () >>= fun f2 => thenL f2 fun s1 => (pure (.next ())))
def m__wall (v_k : D) : M D := mB__wall v_k >>= retM
theorem c__wall (fx : Fx P w K mg base) : CalD P w K mg base 1 "_wall" 1 (mk1 m__wall) := by
  have nd : (["k"] : List PySem.Str).Nodup := by decide
  obtain ⟨fd, F⟩ := fx.d__wall
  refine (cal_of (N := ["k"]) (ps := ["k"]) (eN := fun (_ : Unit) => [.none]) (k := 0) (mB := fun ds => match ds with | [v_k] => mB__wall v_k | _ => M.stuck) F fx.g__wall ⟨rfl, rfl, rfl, by decide, rfl, by decide, by decide⟩ (fun _ _ _ _ _ _ us hl => match us, hl with | [_], _ => rfl) (fun cdv A outer s H E ds hl hcd hr => ?_)).to ?_
  · match ds, hl with
    | [v_k], _ => exact (db_while (es := fun (s1 : Unit) => [.val v_k]) 400 () (.k .nil) (passes_of rfl) (fun s1 => (dt_val de_bl (fun _ => rfl))) (fun s1 => (db_pass (db_nil (s := ()) (.k .nil)))) (fun s1 => (db_nil (s := ()) (.n .nil))))
  · intro ds hl
    match ds, hl with
    | [_], _ => rfl
def mB_is_within (v_value v_low v_high : D) : M (Fl Empty Empty) :=
  ((vAnd ((pure v_value : M D) >>= mIsi .int) (vAnd (((pure v_value : M D) >>= mIsi .bool) >>= asB >>= fun b3 => pure (.bl (!b3))) (chM dLe dLe (pure v_low : M D) (pure v_value : M D) (pure v_high : M D)))) >>= fun d4 => pure (.ret d4))
def m_is_within (v_value v_low v_high : D) : M D := mB_is_within v_value v_low v_high >>= retM
theorem c_is_within (fx : Fx P w K mg base) : CalD P w K mg base 1 "is_within" 3 (mk3 m_is_within) := by
  have nd : (["value", "low", "high"] : List PySem.Str).Nodup := by decide
  obtain ⟨fd, F⟩ := fx.d_is_within
  refine (cal_of (N := ["value", "low", "high"]) (ps := ["value", "low", "high"]) (eN := eE) (k := 0) (mB := fun ds => match ds with | [v_value, v_low, v_high] => mB_is_within v_value v_low v_high | _ => M.stuck) F fx.g_is_within ⟨rfl, rfl, rfl, by decide, rfl, by decide, by decide⟩ (fun _ _ _ _ _ _ us hl => match us, hl with | [_, _, _], _ => rfl) (fun cdv A outer s H E ds hl hcd hr => ?_)).to ?_
  · match ds, hl with
    | [v_value, v_low, v_high], _ => exact (db_ret (de_and (de_isi (T := .int) rfl fx.b_isinstance rfl fx.b_int rfl (by decide) rfl (de_var 0 rfl rfl (visB rfl) rfl rfl) rfl rfl) (de_and (de_not (de_isi (T := .bool) rfl fx.b_isinstance rfl fx.b_bool rfl (by decide) rfl (de_var 0 rfl rfl (visB rfl) rfl rfl) rfl rfl)) (de_one (de_chain op_le op_le rd_le rd_le (de_var 1 rfl rfl (visB rfl) rfl rfl) (de_var 0 rfl rfl (visB rfl) rfl rfl) (de_var 2 rfl rfl (visB rfl) rfl rfl) rfl)))))
  · intro ds hl
    match ds, hl with
    | [_, _, _], _ => rfl
def mB_is_known_sign (v_value : D) : M (Fl Empty Empty) :=
  ((vAnd ((pure v_value : M D) >>= mIsi .str) ((pure v_value : M D) >>= fun x5 => (pure k_KNOWN_SIGNS : M D) >>= fun x6 => dIn x5 x6)) >>= fun d7 => pure (.ret d7))
def m_is_known_sign (v_value : D) : M D := mB_is_known_sign v_value >>= retM
theorem c_is_known_sign (fx : Fx P w K mg base) : CalD P w K mg base 1 "is_known_sign" 1 (mk1 m_is_known_sign) := by
  have nd : (["value"] : List PySem.Str).Nodup := by decide
  obtain ⟨fd, F⟩ := fx.d_is_known_sign
  refine (cal_of (N := ["value"]) (ps := ["value"]) (eN := eE) (k := 0) (mB := fun ds => match ds with | [v_value] => mB_is_known_sign v_value | _ => M.stuck) F fx.g_is_known_sign ⟨rfl, rfl, rfl, by decide, rfl, by decide, by decide⟩ (fun _ _ _ _ _ _ us hl => match us, hl with | [_], _ => rfl) (fun cdv A outer s H E ds hl hcd hr => ?_)).to ?_
  · match ds, hl with
    | [v_value], _ => exact (db_ret (de_and (de_isi (T := .str) rfl fx.b_isinstance rfl fx.b_str rfl (by decide) rfl (de_var 0 rfl rfl (visB rfl) rfl rfl) rfl rfl) (de_one (de_cmp (op_inA (hu65 hr)) rd_in (de_var 0 rfl rfl (visB rfl) rfl rfl) (de_gdat (v := .ref (He.ga K "KNOWN_SIGNS")) rfl fx.v_KNOWN_SIGNS rfl rfl (fun _ _ => fx.r_KNOWN_SIGNS _ _)) rfl))))
  · intro ds hl
    match ds, hl with
    | [_], _ => rfl
def mB_is_row (v_value v_many : D) : M (Fl Empty Empty) :=
  ((bOr ((((pure v_value : M D) >>= mIsi .str) >>= asB) >>= fun b8 => pure (!b8)) (((pure v_value : M D) >>= dLen) >>= fun x9 => (pure v_many : M D) >>= fun x10 => dNe x9 x10 >>= asB)) >>= fun t11 => if t11 = true then ((pure (.bl false) : M D) >>= fun d13 => pure (.ret d13)) >>= fun f12 => thenM f12 Empty.elim else (((((pure v_value : M D) >>= asW) >>= fun ds => compM dec1 (fun p14 => pure true) (fun p14 => (vOr ((pure p14 : M D) >>= fun x15 => (pure k_KNOWN_SIGNS : M D) >>= fun x16 => dIn x15 x16) ((pure p14 : M D) >>= fun x17 => (pure (.str [63]) : M D) >>= fun x18 => dEq x17 x18))) ds >>= fLst) >>= dAll) >>= fun d19 => pure (.ret d19)))
def m_is_row (v_value v_many : D) : M D := mB_is_row v_value v_many >>= retM
theorem c_is_row (fx : Fx P w K mg base) : CalD P w K mg base 1 "is_row" 2 (mk2 m_is_row) := by
  have nd : (["value", "many", "sign"] : List PySem.Str).Nodup := by decide
  obtain ⟨fd, F⟩ := fx.d_is_row
  refine (cal_of (N := ["value", "many", "sign"]) (ps := ["value", "many"]) (eN := eE) (k := 0) (mB := fun ds => match ds with | [v_value, v_many] => mB_is_row v_value v_many | _ => M.stuck) F fx.g_is_row ⟨rfl, rfl, rfl, by decide, rfl, by decide, by decide⟩ (fun _ _ _ _ _ _ us hl => match us, hl with | [_, _], _ => rfl) (fun cdv A outer s H E ds hl hcd hr => ?_)).to ?_
  · match ds, hl with
    | [v_value, v_many], _ => exact (db_if1 (DW.dt (dw_or (dt_not (dt_val (de_isi (T := .str) rfl fx.b_isinstance rfl fx.b_str rfl (by decide) rfl (de_var 0 rfl rfl (visB rfl) rfl rfl) rfl rfl) (fun _ => rfl))) (dw_or1 (dt_cmp (op_neD (hu64 hr)) rd_ne (de_b1 cr_lenA rc_len rfl fx.b_len rfl (de_var 0 rfl rfl (visB rfl) rfl rfl) (by decide) rfl rfl) (de_var 1 rfl rfl (visB rfl) rfl rfl) rfl)))) (db_ret de_bl) (db_ret (de_b1 (cr_all rfl) rc_all rfl fx.b_all rfl (de_lcF (own := [("sign", 2)]) fLst_ok rfl nd (g_name 2) (by decide) (di_any (de_var 0 rfl rfl (visB rfl) rfl rfl)) (blkOk_by rfl) (fun _ _ _ _ _ => (pg_name nd rfl (locB rfl))) (fun _ _ _ _ _ p14 => dts_nil) (fun _ _ _ _ _ p14 => (de_or (de_cmp (op_inA (hu65 hr)) rd_in (de_var 2 rfl rfl (visB rfl) rfl rfl) (de_gdat (v := .ref (He.ga K "KNOWN_SIGNS")) rfl fx.v_KNOWN_SIGNS rfl rfl (fun _ _ => fx.r_KNOWN_SIGNS _ _)) rfl) (de_one (de_cmp (op_eqD (hu64 hr)) rd_eq (de_var 2 rfl rfl (visB rfl) rfl rfl) (de_gstr rfl fx.v_UNKNOWN rfl rfl rfl) rfl)))) (fun _ => rfl)) (by decide) rfl rfl)))
  · intro ds hl
    match ds, hl with
    | [_, _], _ => rfl
def mB_is_right_model (v_value : D) : M (Fl Empty Empty) :=
  ((bOr ((((pure v_value : M D) >>= mIsi .tuple) >>= asB) >>= fun b20 => pure (!b20)) (((chM dLe dLe (pure (.int 1) : M D) ((pure v_value : M D) >>= dLen) (pure (.int (4)) : M D)) >>= asB) >>= fun b21 => pure (!b21))) >>= fun t22 => if t22 = true then ((pure (.bl false) : M D) >>= fun d24 => pure (.ret d24)) >>= fun f23 => thenM f23 Empty.elim else (((((((pure v_value : M D) >>= asW) >>= fun ds => compM dec1 (fun p25 => pure true) (fun p25 => (((pure p25 : M D) >>= fun x28 => (((pure v_value : M D) >>= dLen) >>= fun x26 => (pure []) >>= fun r27 => pure (x26 :: r27)) >>= fun r29 => pure (x28 :: r29)) >>= mk2 m_is_row)) ds >>= fLst) >>= dAll) >>= asB) >>= fun b30 => pure (!b30)) >>= fun t31 => if t31 = true then ((pure (.bl false) : M D) >>= fun d33 => pure (.ret d33)) >>= fun f32 => thenM f32 Empty.elim else ((((((pure v_value : M D) >>= asW) >>= fun ds => compM dec1 (fun p34 => pure true) (fun p34 => ((pure p34 : M D) >>= fun x35 => isS x35 >>= fun _ => (pure (.str [63]) : M D) >>= fun x36 => dCount x35 x36)) ds >>= fLst) >>= dSum) >>= fun x37 => (pure (.int (4)) : M D) >>= fun x38 => dLe x37 x38) >>= fun d39 => pure (.ret d39))))
def m_is_right_model (v_value : D) : M D := mB_is_right_model v_value >>= retM
theorem c_is_right_model (fx : Fx P w K mg base) : CalD P w K mg base 2 "is_right_model" 1 (mk1 m_is_right_model) := by
  have nd : (["value", "row"] : List PySem.Str).Nodup := by decide
  obtain ⟨fd, F⟩ := fx.d_is_right_model
  refine (cal_of (N := ["value", "row"]) (ps := ["value"]) (eN := eE) (k := 1) (mB := fun ds => match ds with | [v_value] => mB_is_right_model v_value | _ => M.stuck) F fx.g_is_right_model ⟨rfl, rfl, rfl, by decide, rfl, by decide, by decide⟩ (fun _ _ _ _ _ _ us hl => match us, hl with | [_], _ => rfl) (fun cdv A outer s H E ds hl hcd hr => ?_)).to ?_
  · match ds, hl with
    | [v_value], _ => exact (db_if1 (DW.dt (dw_or (dt_not (dt_val (de_isi (T := .tuple) rfl fx.b_isinstance rfl fx.b_tuple rfl (by decide) rfl (de_var 0 rfl rfl (visB rfl) rfl rfl) rfl rfl) (fun _ => rfl))) (dw_or1 (dt_not (dt_chain op_le op_le rd_le rd_le de_int (de_b1 cr_lenA rc_len rfl fx.b_len rfl (de_var 0 rfl rfl (visB rfl) rfl rfl) (by decide) rfl rfl) (de_gint rfl fx.v_MOST_QUANTITIES rfl) rfl))))) (db_ret de_bl) (db_if1 (dt_not (dt_val (de_b1 (cr_all rfl) rc_all rfl fx.b_all rfl (de_lcF (own := [("row", 1)]) fLst_ok rfl nd (g_name 1) (by decide) (di_any (de_var 0 rfl rfl (visB rfl) rfl rfl)) (blkOk_by rfl) (fun _ _ _ _ _ => (pg_name nd rfl (locB rfl))) (fun _ _ _ _ _ p25 => dts_nil) (fun _ _ _ _ _ p25 => (de_call (c_is_row fx) hr (by first | decide | omega) rfl passB (da_cons (de_var 1 rfl rfl (visB rfl) rfl rfl) (da_cons (de_b1 cr_lenA rc_len rfl fx.b_len rfl (de_var 0 rfl rfl (visB rfl) rfl rfl) (by decide) rfl rfl) da_nil rfl) rfl) rfl rfl rfl rfl rfl (mk2_len _))) (fun _ => rfl)) (by decide) rfl rfl) (fun _ => rfl))) (db_ret de_bl) (db_ret (de_cmp op_le rd_le (de_b1 (cr_sum rfl) rc_sum rfl fx.b_sum rfl (de_lcF (own := [("row", 1)]) fLst_ok rfl nd (g_name 1) (by decide) (di_any (de_var 0 rfl rfl (visB rfl) rfl rfl)) (blkOk_by rfl) (fun _ _ _ _ _ => (pg_name nd rfl (locB rfl))) (fun _ _ _ _ _ p34 => dts_nil) (fun _ _ _ _ _ p34 => (de_count (de_var 1 rfl rfl (visB rfl) rfl rfl) (de_gstr rfl fx.v_UNKNOWN rfl rfl rfl) rfl rfl rfl)) (fun _ => rfl)) (by decide) rfl rfl) (de_gint rfl fx.v_MOST_UNKNOWN rfl) rfl))))
  · intro ds hl
    match ds, hl with
    | [_], _ => rfl
def mB_is_place (v_model v_value : D) : M (Fl Empty Empty) :=
  ((bOr ((((pure v_value : M D) >>= mIsi .tuple) >>= asB) >>= fun b40 => pure (!b40)) (((pure v_value : M D) >>= dLen) >>= fun x41 => (pure (.int 2) : M D) >>= fun x42 => dNe x41 x42 >>= asB)) >>= fun t43 => if t43 = true then ((pure (.bl false) : M D) >>= fun d45 => pure (.ret d45)) >>= fun f44 => thenM f44 Empty.elim else (((((pure v_value : M D) >>= asW) >>= fun ds => compM dec1 (fun p46 => pure true) (fun p46 => (((pure p46 : M D) >>= fun x53 => ((pure (.int 0) : M D) >>= fun x51 => ((((pure v_model : M D) >>= dLen) >>= fun x47 => (pure (.int 1) : M D) >>= fun x48 => dSub x47 x48) >>= fun x49 => (pure []) >>= fun r50 => pure (x49 :: r50)) >>= fun r52 => pure (x51 :: r52)) >>= fun r54 => pure (x53 :: r54)) >>= mk3 m_is_within)) ds >>= fLst) >>= dAll) >>= fun d55 => pure (.ret d55)))
def m_is_place (v_model v_value : D) : M D := mB_is_place v_model v_value >>= retM
theorem c_is_place (fx : Fx P w K mg base) : CalD P w K mg base 2 "is_place" 2 (mk2 m_is_place) := by
  have nd : (["model", "value", "number"] : List PySem.Str).Nodup := by decide
  obtain ⟨fd, F⟩ := fx.d_is_place
  refine (cal_of (N := ["model", "value", "number"]) (ps := ["model", "value"]) (eN := eE) (k := 1) (mB := fun ds => match ds with | [v_model, v_value] => mB_is_place v_model v_value | _ => M.stuck) F fx.g_is_place ⟨rfl, rfl, rfl, by decide, rfl, by decide, by decide⟩ (fun _ _ _ _ _ _ us hl => match us, hl with | [_, _], _ => rfl) (fun cdv A outer s H E ds hl hcd hr => ?_)).to ?_
  · match ds, hl with
    | [v_model, v_value], _ => exact (db_if1 (DW.dt (dw_or (dt_not (dt_val (de_isi (T := .tuple) rfl fx.b_isinstance rfl fx.b_tuple rfl (by decide) rfl (de_var 1 rfl rfl (visB rfl) rfl rfl) rfl rfl) (fun _ => rfl))) (dw_or1 (dt_cmp (op_neD (hu64 hr)) rd_ne (de_b1 cr_lenA rc_len rfl fx.b_len rfl (de_var 1 rfl rfl (visB rfl) rfl rfl) (by decide) rfl rfl) de_int rfl)))) (db_ret de_bl) (db_ret (de_b1 (cr_all rfl) rc_all rfl fx.b_all rfl (de_lcF (own := [("number", 2)]) fLst_ok rfl nd (g_name 2) (by decide) (di_any (de_var 1 rfl rfl (visB rfl) rfl rfl)) (blkOk_by rfl) (fun _ _ _ _ _ => (pg_name nd rfl (locB rfl))) (fun _ _ _ _ _ p46 => dts_nil) (fun _ _ _ _ _ p46 => (de_call (c_is_within fx) hr (by first | decide | omega) rfl passB (da_cons (de_var 2 rfl rfl (visB rfl) rfl rfl) (da_cons de_int (da_cons (de_op2 op_sub rd_sub (de_b1 cr_lenA rc_len rfl fx.b_len rfl (de_var 0 rfl rfl (visB rfl) rfl rfl) (by decide) rfl rfl) de_int) da_nil rfl) rfl) rfl) rfl rfl rfl rfl rfl (mk3_len _))) (fun _ => rfl)) (by decide) rfl rfl)))
  · intro ds hl
    match ds, hl with
    | [_, _], _ => rfl
def mB_need_model (v_value : D) : M (Fl Unit Empty) :=
  ((((((pure v_value : M D) >>= fun x56 => (pure []) >>= fun r57 => pure (x56 :: r57)) >>= mk1 m_is_right_model) >>= asB) >>= fun b58 => pure (!b58)) >>= fun t59 => if t59 = true then (M.throw ⟨"InvalidModel", []⟩) >>= fun f60 => thenM f60 Empty.elim else (pure (.next ())))
def m_need_model (v_value : D) : M D := mB_need_model v_value >>= retM
theorem c_need_model (fx : Fx P w K mg base) : CalD P w K mg base 3 "need_model" 1 (mk1 m_need_model) := by
  have nd : (["value"] : List PySem.Str).Nodup := by decide
  obtain ⟨fd, F⟩ := fx.d_need_model
  refine (cal_of (N := ["value"]) (ps := ["value"]) (eN := fun (_ : Unit) => [.none]) (k := 2) (mB := fun ds => match ds with | [v_value] => mB_need_model v_value | _ => M.stuck) F fx.g_need_model ⟨rfl, rfl, rfl, by decide, rfl, by decide, by decide⟩ (fun _ _ _ _ _ _ us hl => match us, hl with | [_], _ => rfl) (fun cdv A outer s H E ds hl hcd hr => ?_)).to ?_
  · match ds, hl with
    | [v_value], _ => exact (db_if1 (dt_not (dt_val (de_call (c_is_right_model fx) hr (by first | decide | omega) rfl (passF (L2N.takes_of rfl rfl rfl rfl)) (da_cons (de_var 0 rfl rfl (visB rfl) rfl rfl) da_nil rfl) rfl rfl rfl rfl rfl (mk1_len _)) (fun _ => rfl))) (db_raise rfl (L2N.takes_of rfl rfl rfl rfl) fx.e_InvalidModel rfl rfl) (db_nil (s := ()) (.n .nil)))
  · intro ds hl
    match ds, hl with
    | [_], _ => rfl
def mB_need_quantity (v_model v_value : D) : M (Fl Unit Empty) :=
  ((((((pure v_value : M D) >>= fun x67 => ((pure (.int 0) : M D) >>= fun x65 => ((((pure v_model : M D) >>= dLen) >>= fun x61 => (pure (.int 1) : M D) >>= fun x62 => dSub x61 x62) >>= fun x63 => (pure []) >>= fun r64 => pure (x63 :: r64)) >>= fun r66 => pure (x65 :: r66)) >>= fun r68 => pure (x67 :: r68)) >>= mk3 m_is_within) >>= asB) >>= fun b69 => pure (!b69)) >>= fun t70 => if t70 = true then (M.throw ⟨"InvalidQuantity", []⟩) >>= fun f71 => thenM f71 Empty.elim else (pure (.next ())))
def m_need_quantity (v_model v_value : D) : M D := mB_need_quantity v_model v_value >>= retM
theorem c_need_quantity (fx : Fx P w K mg base) : CalD P w K mg base 2 "need_quantity" 2 (mk2 m_need_quantity) := by
  have nd : (["model", "value"] : List PySem.Str).Nodup := by decide
  obtain ⟨fd, F⟩ := fx.d_need_quantity
  refine (cal_of (N := ["model", "value"]) (ps := ["model", "value"]) (eN := fun (_ : Unit) => [.none, .none]) (k := 1) (mB := fun ds => match ds with | [v_model, v_value] => mB_need_quantity v_model v_value | _ => M.stuck) F fx.g_need_quantity ⟨rfl, rfl, rfl, by decide, rfl, by decide, by decide⟩ (fun _ _ _ _ _ _ us hl => match us, hl with | [_, _], _ => rfl) (fun cdv A outer s H E ds hl hcd hr => ?_)).to ?_
  · match ds, hl with
    | [v_model, v_value], _ => exact (db_if1 (dt_not (dt_val (de_call (c_is_within fx) hr (by first | decide | omega) rfl (passF (L2N.takes_of rfl rfl rfl rfl)) (da_cons (de_var 1 rfl rfl (visB rfl) rfl rfl) (da_cons de_int (da_cons (de_op2 op_sub rd_sub (de_b1 cr_lenA rc_len rfl fx.b_len rfl (de_var 0 rfl rfl (visB rfl) rfl rfl) (by decide) rfl rfl) de_int) da_nil rfl) rfl) rfl) rfl rfl rfl rfl rfl (mk3_len _)) (fun _ => rfl))) (db_raise rfl (L2N.takes_of rfl rfl rfl rfl) fx.e_InvalidQuantity rfl rfl) (db_nil (s := ()) (.n (.n .nil))))
  · intro ds hl
    match ds, hl with
    | [_, _], _ => rfl
def mB_need_place (v_model v_value : D) : M (Fl Unit Empty) :=
  ((((((pure v_model : M D) >>= fun x74 => ((pure v_value : M D) >>= fun x72 => (pure []) >>= fun r73 => pure (x72 :: r73)) >>= fun r75 => pure (x74 :: r75)) >>= mk2 m_is_place) >>= asB) >>= fun b76 => pure (!b76)) >>= fun t77 => if t77 = true then (M.throw ⟨"InvalidPlace", []⟩) >>= fun f78 => thenM f78 Empty.elim else (pure (.next ())))
def m_need_place (v_model v_value : D) : M D := mB_need_place v_model v_value >>= retM
theorem c_need_place (fx : Fx P w K mg base) : CalD P w K mg base 3 "need_place" 2 (mk2 m_need_place) := by
  have nd : (["model", "value"] : List PySem.Str).Nodup := by decide
  obtain ⟨fd, F⟩ := fx.d_need_place
  refine (cal_of (N := ["model", "value"]) (ps := ["model", "value"]) (eN := fun (_ : Unit) => [.none, .none]) (k := 2) (mB := fun ds => match ds with | [v_model, v_value] => mB_need_place v_model v_value | _ => M.stuck) F fx.g_need_place ⟨rfl, rfl, rfl, by decide, rfl, by decide, by decide⟩ (fun _ _ _ _ _ _ us hl => match us, hl with | [_, _], _ => rfl) (fun cdv A outer s H E ds hl hcd hr => ?_)).to ?_
  · match ds, hl with
    | [v_model, v_value], _ => exact (db_if1 (dt_not (dt_val (de_call (c_is_place fx) hr (by first | decide | omega) rfl (passF (L2N.takes_of rfl rfl rfl rfl)) (da_cons (de_var 0 rfl rfl (visB rfl) rfl rfl) (da_cons (de_var 1 rfl rfl (visB rfl) rfl rfl) da_nil rfl) rfl) rfl rfl rfl rfl rfl (mk2_len _)) (fun _ => rfl))) (db_raise rfl (L2N.takes_of rfl rfl rfl rfl) fx.e_InvalidPlace rfl rfl) (db_nil (s := ()) (.n (.n .nil))))
  · intro ds hl
    match ds, hl with
    | [_, _], _ => rfl
def mB_unknown_places (v_model : D) : M (Fl Empty Empty) :=
  (((pure []) >>= fLst) >>= fun v_found_79 => (((pure v_model : M D) >>= enW) >>= fun ds94 => loopM dec2 (fun (s80 : D) p81 => (((pure s80 : M D) >>= fun x91 => (((pure p81.2 : M D) >>= enW) >>= fun ds => compM dec2 (fun p84 => ((pure p84.2 : M D) >>= fun x85 => (pure (.str [63]) : M D) >>= fun x86 => dEq x85 x86 >>= asB)) (fun p84 => (((pure p81.1 : M D) >>= fun x89 => ((pure p84.1 : M D) >>= fun x87 => (pure []) >>= fun r88 => pure (x87 :: r88)) >>= fun r90 => pure (x89 :: r90)) >>= mkTup)) ds >>= fLst) >>= fun x92 => dAdd x91 x92) >>= fun v_found_83 => (pure (.next v_found_83)))) ds94 v_found_79 >>= fun f82 => thenL f82 fun s80 => ((pure s80 : M D) >>= fun d93 => pure (.ret d93))))
def m_unknown_places (v_model : D) : M D := mB_unknown_places v_model >>= retM
theorem c_unknown_places (fx : Fx P w K mg base) : CalD P w K mg base 1 "unknown_places" 1 (mk1 m_unknown_places) := by
  have nd : (["model", "found", "at", "row", "place", "sign"] : List PySem.Str).Nodup := by decide
  obtain ⟨fd, F⟩ := fx.d_unknown_places
  refine (cal_of (N := ["model", "found", "at", "row", "place", "sign"]) (ps := ["model"]) (eN := eE) (k := 0) (mB := fun ds => match ds with | [v_model] => mB_unknown_places v_model | _ => M.stuck) F fx.g_unknown_places ⟨rfl, rfl, rfl, by decide, rfl, by decide, by decide⟩ (fun _ _ _ _ _ _ us hl => match us, hl with | [_], _ => rfl) (fun cdv A outer s H E ds hl hcd hr => ?_)).to ?_
  · match ds, hl with
    | [v_model], _ => exact (db_set 1 (de_lstF fLst_ok da_nil) nd rfl (locB rfl) rfl (by first | exact .inl rfl | exact .inr rfl) (fun v_found_79 => (db_for (es := fun (s80 : D) => [.val v_model, .val s80, .none, .none, .none, .none]) v_found_79 (.k (.k (.k (.k (.k (.k .nil)))))) (passes_of rfl) rfl (g_tup2 2 3) (di_en rfl fx.b_enumerate (de_var 0 rfl rfl (visB rfl) rfl rfl) rfl) (pg_tup rfl (pgs_cons (pg_name nd rfl (locB rfl)) (pgs_cons (pg_name nd rfl (locB rfl)) pgs_nil))) (fun _ => rfl) (fun s80 p81 => (db_set 1 (de_op2 op_addA rd_add (de_var 1 rfl rfl (visB rfl) rfl rfl) (de_lcF (own := [("place", 4), ("sign", 5)]) fLst_ok rfl nd (g_tup2 4 5) (by decide) (di_en rfl fx.b_enumerate (de_var 3 rfl rfl (visB rfl) rfl rfl) rfl) (blkOk_by rfl) (fun _ _ _ _ _ => (pg_tup rfl (pgs_cons (pg_name nd rfl (locB rfl)) (pgs_cons (pg_name nd rfl (locB rfl)) pgs_nil)))) (fun _ _ _ _ _ p84 => dts_one (dt_cmp (op_eqD (hu64 hr)) rd_eq (de_var 5 rfl rfl (visB rfl) rfl rfl) (de_gstr rfl fx.v_UNKNOWN rfl rfl rfl) rfl)) (fun _ _ _ _ _ p84 => (de_tup (da_cons (de_var 2 rfl rfl (visB rfl) rfl rfl) (da_cons (de_var 4 rfl rfl (visB rfl) rfl rfl) da_nil rfl) rfl))) (fun _ => rfl))) nd rfl (locB rfl) rfl (by first | exact .inl rfl | exact .inr rfl) (fun v_found_83 => (db_nil (s := v_found_83) (.k (.k (.n (.n (.k (.k .nil)))))))))) (fun s80 => (db_ret (de_var 1 rfl rfl (visB rfl) rfl rfl))))))
  · intro ds hl
    match ds, hl with
    | [_], _ => rfl
def mB_with_sign (v_model v_place v_sign : D) : M (Fl Empty Empty) :=
  (((pure v_model : M D) >>= fun x98 => ((pure v_place : M D) >>= fun x96 => (pure (.int 0) : M D) >>= fun x97 => dIndex x96 x97) >>= fun x99 => dIndex x98 x99) >>= fun v_row_95 => (((((pure v_model : M D) >>= fun x102 => (pure none) >>= fun l103 => (((pure v_place : M D) >>= fun x100 => (pure (.int 0) : M D) >>= fun x101 => dIndex x100 x101) >>= asI) >>= fun u104 => dSlice x102 l103 u104) >>= fun x123 => ((((((pure v_row_95 : M D) >>= fun x107 => (pure none) >>= fun l108 => (((pure v_place : M D) >>= fun x105 => (pure (.int 1) : M D) >>= fun x106 => dIndex x105 x106) >>= asI) >>= fun u109 => dSlice x107 l108 u109) >>= fun x110 => (pure v_sign : M D) >>= fun x111 => dAdd x110 x111) >>= fun x119 => ((pure v_row_95 : M D) >>= fun x116 => ((((pure v_place : M D) >>= fun x112 => (pure (.int 1) : M D) >>= fun x113 => dIndex x112 x113) >>= fun x114 => (pure (.int 1) : M D) >>= fun x115 => dAdd x114 x115) >>= asI) >>= fun l117 => (pure none) >>= fun u118 => dSlice x116 l117 u118) >>= fun x120 => dAdd x119 x120) >>= fun x121 => (pure []) >>= fun r122 => pure (x121 :: r122)) >>= mkTup) >>= fun x124 => dAdd x123 x124) >>= fun x132 => ((pure v_model : M D) >>= fun x129 => ((((pure v_place : M D) >>= fun x125 => (pure (.int 0) : M D) >>= fun x126 => dIndex x125 x126) >>= fun x127 => (pure (.int 1) : M D) >>= fun x128 => dAdd x127 x128) >>= asI) >>= fun l130 => (pure none) >>= fun u131 => dSlice x129 l130 u131) >>= fun x133 => dAdd x132 x133) >>= fun d134 => pure (.ret d134)))
def m_with_sign (v_model v_place v_sign : D) : M D := mB_with_sign v_model v_place v_sign >>= retM
theorem c_with_sign (fx : Fx P w K mg base) : CalD P w K mg base 1 "with_sign" 3 (mk3 m_with_sign) := by
  have nd : (["model", "place", "sign", "row"] : List PySem.Str).Nodup := by decide
  obtain ⟨fd, F⟩ := fx.d_with_sign
  refine (cal_of (N := ["model", "place", "sign", "row"]) (ps := ["model", "place", "sign"]) (eN := eE) (k := 0) (mB := fun ds => match ds with | [v_model, v_place, v_sign] => mB_with_sign v_model v_place v_sign | _ => M.stuck) F fx.g_with_sign ⟨rfl, rfl, rfl, by decide, rfl, by decide, by decide⟩ (fun _ _ _ _ _ _ us hl => match us, hl with | [_, _, _], _ => rfl) (fun cdv A outer s H E ds hl hcd hr => ?_)).to ?_
  · match ds, hl with
    | [v_model, v_place, v_sign], _ => exact (db_set 3 (de_ix (de_var 0 rfl rfl (visB rfl) rfl rfl) (de_ix (de_var 1 rfl rfl (visB rfl) rfl rfl) de_int (fun _ _ => rfl)) (fun _ _ => rfl)) nd rfl (locB rfl) rfl (by first | exact .inl rfl | exact .inr rfl) (fun v_row_95 => (db_ret (de_op2 op_addA rd_add (de_op2 op_addA rd_add (de_slice (de_var 0 rfl rfl (visB rfl) rfl rfl) do_none (do_some (de_ix (de_var 1 rfl rfl (visB rfl) rfl rfl) de_int (fun _ _ => rfl)))) (de_tup (da_cons (de_op2 op_addA rd_add (de_op2 op_addA rd_add (de_slice (de_var 3 rfl rfl (visB rfl) rfl rfl) do_none (do_some (de_ix (de_var 1 rfl rfl (visB rfl) rfl rfl) de_int (fun _ _ => rfl)))) (de_var 2 rfl rfl (visB rfl) rfl rfl)) (de_slice (de_var 3 rfl rfl (visB rfl) rfl rfl) (do_some (de_op2 op_addA rd_add (de_ix (de_var 1 rfl rfl (visB rfl) rfl rfl) de_int (fun _ _ => rfl)) de_int)) do_none)) da_nil rfl))) (de_slice (de_var 0 rfl rfl (visB rfl) rfl rfl) (do_some (de_op2 op_addA rd_add (de_ix (de_var 1 rfl rfl (visB rfl) rfl rfl) de_int (fun _ _ => rfl)) de_int)) do_none)))))
  · intro ds hl
    match ds, hl with
    | [_, _, _], _ => rfl
def mB__law_source (v_script v_k : D) : M (Fl Empty Empty) :=
  ((pure (.int 0) : M D) >>= fun v_number_135 => ((((pure v_script : M D) >>= dLen) >>= fun x136 => (pure v_k : M D) >>= fun x137 => dGt x136 x137 >>= asB) >>= fun t138 => (if t138 = true then ((((pure v_script : M D) >>= fun x142 => (pure v_k : M D) >>= fun x143 => dIndex x142 x143) >>= dInt) >>= fun v_number_141 => (pure (.next v_number_141))) else (pure (.next v_number_135)) : M (Fl (D) _)) >>= fun f139 => thenM f139 fun s140 => ((((((pure s140 : M D) >>= fun x145 => (pure (.int 16807) : M D) >>= fun x146 => dMul x145 x146) >>= fun x149 => ((pure (.int 60919) : M D) >>= fun x147 => (pure v_k : M D) >>= fun x148 => dMul x147 x148) >>= fun x150 => dAdd x149 x150) >>= fun x151 => (pure (.int 31) : M D) >>= fun x152 => dAdd x151 x152) >>= fun x153 => (pure (.int 2147481173) : M D) >>= fun x154 => dMod x153 x154) >>= fun v_start_144 => ((((((pure v_start_144 : M D) >>= fun x156 => (pure v_start_144 : M D) >>= fun x157 => dMul x156 x157) >>= fun x158 => (pure (.int 2147481151) : M D) >>= fun x159 => dMod x158 x159) >>= fun x162 => ((pure (.int 2) : M D) >>= fun x160 => (pure v_k : M D) >>= fun x161 => dMul x160 x161) >>= fun x163 => dAdd x162 x163) >>= fun x164 => (pure (.int 5) : M D) >>= fun x165 => dAdd x164 x165) >>= fun v_start_155 => ((((((pure s140 : M D) >>= fun x168 => ((pure (.int 10) : M D) >>= fun x166 => (pure (.int 18) : M D) >>= fun x167 => dPow x166 x167) >>= fun x169 => dGe x168 x169 >>= asB) >>= fun t170 => if t170 = true then (pure s140 : M D) else (pure (.int 0) : M D)) >>= fun x173 => ((pure v_start_155 : M D) >>= fun x171 => (pure []) >>= fun r172 => pure (x171 :: r172)) >>= fun r174 => pure (x173 :: r174)) >>= newC) >>= fun d175 => pure (.ret d175))))))
def m__law_source (v_script v_k : D) : M D := mB__law_source v_script v_k >>= retM
theorem c__law_source (fx : Fx P w K mg base) : CalD P w K mg base 1 "_law_source" 2 (mk2 m__law_source) := by
  have nd : (["script", "k", "number", "start"] : List PySem.Str).Nodup := by decide
  obtain ⟨fd, F⟩ := fx.d__law_source
  refine (cal_of (N := ["script", "k", "number", "start"]) (ps := ["script", "k"]) (eN := eE) (k := 0) (mB := fun ds => match ds with | [v_script, v_k] => mB__law_source v_script v_k | _ => M.stuck) F fx.g__law_source ⟨rfl, rfl, rfl, by decide, rfl, by decide, by decide⟩ (fun _ _ _ _ _ _ us hl => match us, hl with | [_, _], _ => rfl) (fun cdv A outer s H E ds hl hcd hr => ?_)).to ?_
  · match ds, hl with
    | [v_script, v_k], _ => exact (db_set 2 de_int nd rfl (locB rfl) rfl (by first | exact .inl rfl | exact .inr rfl) (fun v_number_135 => (db_if (e' := fun (s140 : D) => [.val v_script, .val v_k, .val s140, .none]) (dt_cmp op_gt rd_gt (de_b1 cr_lenA rc_len rfl fx.b_len rfl (de_var 0 rfl rfl (visB rfl) rfl rfl) (by decide) rfl rfl) (de_var 1 rfl rfl (visB rfl) rfl rfl) rfl) (db_set 2 (de_ty1 call_int1 rc_int rfl fx.b_int rfl (de_ix (de_var 0 rfl rfl (visB rfl) rfl rfl) (de_var 1 rfl rfl (visB rfl) rfl rfl) (fun _ _ => rfl)) (by decide) rfl rfl) nd rfl (locB rfl) rfl (by first | exact .inl rfl | exact .inr rfl) (fun v_number_141 => (db_nil (s := v_number_141) (.k (.k (.k (.k .nil))))))) (db_nil (s := v_number_135) (.k (.k (.k (.k .nil))))) (fun s140 => (db_set 3 (de_op2 op_modN rd_mod (de_op2 op_addA rd_add (de_op2 op_addA rd_add (de_op2 op_mulA rd_mul (de_var 2 rfl rfl (visB rfl) rfl rfl) de_int) (de_op2 op_mulA rd_mul de_int (de_var 1 rfl rfl (visB rfl) rfl rfl))) de_int) de_int) nd rfl (locB rfl) rfl (by first | exact .inl rfl | exact .inr rfl) (fun v_start_144 => (db_set 3 (de_op2 op_addA rd_add (de_op2 op_addA rd_add (de_op2 op_modN rd_mod (de_op2 op_mulA rd_mul (de_var 3 rfl rfl (visB rfl) rfl rfl) (de_var 3 rfl rfl (visB rfl) rfl rfl)) de_int) (de_op2 op_mulA rd_mul de_int (de_var 1 rfl rfl (visB rfl) rfl rfl))) de_int) nd rfl (locB rfl) rfl (by first | exact .inl rfl | exact .inr rfl) (fun v_start_155 => (db_ret (de_lstF newC_ok (da_cons (de_ifExp (dt_cmp op_ge rd_ge (de_var 2 rfl rfl (visB rfl) rfl rfl) (de_op2 op_pow rd_pow de_int de_int) rfl) (de_var 2 rfl rfl (visB rfl) rfl rfl) de_int) (da_cons (de_var 3 rfl rfl (visB rfl) rfl rfl) da_nil rfl) rfl)))))))))))
  · intro ds hl
    match ds, hl with
    | [_, _], _ => rfl
def mB__law_pick (v_source v_many : D) : M (Fl Empty Empty) :=
  ((((pure v_source : M D) >>= fun x176 => (pure (.int 0) : M D) >>= fun x177 => dIndex x176 x177) >>= fun x178 => (pure (.int 0) : M D) >>= fun x179 => dGt x178 x179 >>= asB) >>= fun t180 => if t180 = true then (((((pure v_source : M D) >>= fun x183 => (pure (.int 0) : M D) >>= fun x184 => dIndex x183 x184) >>= dInt) >>= fun x185 => (pure v_many : M D) >>= fun x186 => dMod x185 x186) >>= fun v_found_182 => (((((pure v_source : M D) >>= fun x187 => (pure (.int 0) : M D) >>= fun x188 => dIndex x187 x188) >>= dInt) >>= fun x189 => (pure v_many : M D) >>= fun x190 => dFdiv x189 x190) >>= fun x192 => (pure v_source : M D) >>= fun x193 => (pure (.int 0) : M D) >>= fun x194 => setC x193 x194 x192 >>= fun _ => ((pure v_found_182 : M D) >>= fun d191 => pure (.ret d191)))) >>= fun f181 => thenM f181 Empty.elim else (((((((pure v_source : M D) >>= fun x195 => (pure (.int 1) : M D) >>= fun x196 => dIndex x195 x196) >>= fun x197 => (pure (.int 44497) : M D) >>= fun x198 => dMul x197 x198) >>= fun x199 => (pure (.int 9973) : M D) >>= fun x200 => dAdd x199 x200) >>= dInt) >>= fun x201 => (pure (.int 2147483647) : M D) >>= fun x202 => dMod x201 x202) >>= fun x216 => (pure v_source : M D) >>= fun x217 => (pure (.int 1) : M D) >>= fun x218 => setC x217 x218 x216 >>= fun _ => ((((((((pure v_source : M D) >>= fun x203 => (pure (.int 1) : M D) >>= fun x204 => dIndex x203 x204) >>= fun x207 => ((pure v_source : M D) >>= fun x205 => (pure (.int 1) : M D) >>= fun x206 => dIndex x205 x206) >>= fun x208 => dMul x207 x208) >>= dInt) >>= fun x209 => (pure (.int 2147483399) : M D) >>= fun x210 => dMod x209 x210) >>= fun x211 => (pure (.int 11) : M D) >>= fun x212 => dFdiv x211 x212) >>= fun x213 => (pure v_many : M D) >>= fun x214 => dMod x213 x214) >>= fun d215 => pure (.ret d215))))
def m__law_pick (v_source v_many : D) : M D := mB__law_pick v_source v_many >>= retM
theorem c__law_pick (fx : Fx P w K mg base) : CalD P w K mg base 1 "_law_pick" 2 (mk2 m__law_pick) := by
  have nd : (["source", "many", "found"] : List PySem.Str).Nodup := by decide
  obtain ⟨fd, F⟩ := fx.d__law_pick
  refine (cal_of (N := ["source", "many", "found"]) (ps := ["source", "many"]) (eN := eE) (k := 0) (mB := fun ds => match ds with | [v_source, v_many] => mB__law_pick v_source v_many | _ => M.stuck) F fx.g__law_pick ⟨rfl, rfl, rfl, by decide, rfl, by decide, by decide⟩ (fun _ _ _ _ _ _ us hl => match us, hl with | [_, _], _ => rfl) (fun cdv A outer s H E ds hl hcd hr => ?_)).to ?_
  · match ds, hl with
    | [v_source, v_many], _ => exact (db_if1 (dt_cmp op_gt rd_gt (de_ix (de_var 0 rfl rfl (visB rfl) rfl rfl) de_int (fun _ _ => rfl)) de_int rfl) (db_set 2 (de_op2 op_modN rd_mod (de_ty1 call_int1 rc_int rfl fx.b_int rfl (de_ix (de_var 0 rfl rfl (visB rfl) rfl rfl) de_int (fun _ _ => rfl)) (by decide) rfl rfl) (de_var 1 rfl rfl (visB rfl) rfl rfl)) nd rfl (locB rfl) rfl (by first | exact .inl rfl | exact .inr rfl) (fun v_found_182 => (db_setIx (de_op2 op_fdivA rd_fdiv (de_ty1 call_int1 rc_int rfl fx.b_int rfl (de_ix (de_var 0 rfl rfl (visB rfl) rfl rfl) de_int (fun _ _ => rfl)) (by decide) rfl rfl) (de_var 1 rfl rfl (visB rfl) rfl rfl)) (de_var 0 rfl rfl (visB rfl) rfl rfl) de_int rfl rfl rfl (fun _ => rfl) (db_ret (de_var 2 rfl rfl (visB rfl) rfl rfl))))) (db_setIx (de_op2 op_modN rd_mod (de_ty1 call_int1 rc_int rfl fx.b_int rfl (de_op2 op_addA rd_add (de_op2 op_mulA rd_mul (de_ix (de_var 0 rfl rfl (visB rfl) rfl rfl) de_int (fun _ _ => rfl)) de_int) de_int) (by decide) rfl rfl) de_int) (de_var 0 rfl rfl (visB rfl) rfl rfl) de_int rfl rfl rfl (fun _ => rfl) (db_ret (de_op2 op_modN rd_mod (de_op2 op_fdivA rd_fdiv (de_op2 op_modN rd_mod (de_ty1 call_int1 rc_int rfl fx.b_int rfl (de_op2 op_mulA rd_mul (de_ix (de_var 0 rfl rfl (visB rfl) rfl rfl) de_int (fun _ _ => rfl)) (de_ix (de_var 0 rfl rfl (visB rfl) rfl rfl) de_int (fun _ _ => rfl))) (by decide) rfl rfl) de_int) de_int) (de_var 1 rfl rfl (visB rfl) rfl rfl)))))
  · intro ds hl
    match ds, hl with
    | [_, _], _ => rfl
def mB__law_chosen (v_source v_things : D) : M (Fl Empty Empty) :=
  (((pure v_things : M D) >>= fun x223 => (((pure v_source : M D) >>= fun x221 => (((pure v_things : M D) >>= dLen) >>= fun x219 => (pure []) >>= fun r220 => pure (x219 :: r220)) >>= fun r222 => pure (x221 :: r222)) >>= mk2 m__law_pick) >>= fun x224 => dIndex x223 x224) >>= fun d225 => pure (.ret d225))
def m__law_chosen (v_source v_things : D) : M D := mB__law_chosen v_source v_things >>= retM
theorem c__law_chosen (fx : Fx P w K mg base) : CalD P w K mg base 2 "_law_chosen" 2 (mk2 m__law_chosen) := by
  have nd : (["source", "things"] : List PySem.Str).Nodup := by decide
  obtain ⟨fd, F⟩ := fx.d__law_chosen
  refine (cal_of (N := ["source", "things"]) (ps := ["source", "things"]) (eN := eE) (k := 1) (mB := fun ds => match ds with | [v_source, v_things] => mB__law_chosen v_source v_things | _ => M.stuck) F fx.g__law_chosen ⟨rfl, rfl, rfl, by decide, rfl, by decide, by decide⟩ (fun _ _ _ _ _ _ us hl => match us, hl with | [_, _], _ => rfl) (fun cdv A outer s H E ds hl hcd hr => ?_)).to ?_
  · match ds, hl with
    | [v_source, v_things], _ => exact (db_ret (de_ix (de_var 1 rfl rfl (visB rfl) rfl rfl) (de_call (c__law_pick fx) hr (by first | decide | omega) rfl (passF (L2N.takes_of rfl rfl rfl rfl)) (da_cons (de_var 0 rfl rfl (visB rfl) rfl rfl) (da_cons (de_b1 cr_lenA rc_len rfl fx.b_len rfl (de_var 1 rfl rfl (visB rfl) rfl rfl) (by decide) rfl rfl) da_nil rfl) rfl) rfl rfl rfl rfl rfl (mk2_len _)) (fun _ _ => rfl)))
  · intro ds hl
    match ds, hl with
    | [_, _], _ => rfl
def mB__law_drawn_model (v_source v_most v_hidden : D) : M (Fl Empty Empty) :=
  (((pure (.int 1) : M D) >>= fun x231 => (((pure v_source : M D) >>= fun x229 => ((pure v_most : M D) >>= fun x227 => (pure []) >>= fun r228 => pure (x227 :: r228)) >>= fun r230 => pure (x229 :: r230)) >>= mk2 m__law_pick) >>= fun x232 => dAdd x231 x232) >>= fun v_many_226 => ((bAnd ((pure v_most : M D) >>= fun x233 => (pure (.int 2) : M D) >>= fun x234 => dGt x233 x234 >>= asB) ((((pure v_source : M D) >>= fun x237 => ((pure (.int 3) : M D) >>= fun x235 => (pure []) >>= fun r236 => pure (x235 :: r236)) >>= fun r238 => pure (x237 :: r238)) >>= mk2 m__law_pick) >>= fun x239 => (pure (.int 0) : M D) >>= fun x240 => dGt x239 x240 >>= asB)) >>= fun t241 => (if t241 = true then (((pure v_many_226 : M D) >>= fun x245 => (pure (.int 3) : M D) >>= fun x246 => dMax2 x245 x246) >>= fun v_many_244 => (pure (.next v_many_244))) else (pure (.next v_many_226)) : M (Fl (D) _)) >>= fun f242 => thenM f242 fun s243 => ((((((pure v_source : M D) >>= fun x259 => ((((pure (.str [45, 43, 48]) : M D) >>= fun x255 => ((pure (.str [45, 43, 48]) : M D) >>= fun x253 => ((pure (.str [45, 45, 43, 48, 48]) : M D) >>= fun x251 => ((pure (.str [45, 43, 43, 48]) : M D) >>= fun x249 => ((pure (.str [45, 43]) : M D) >>= fun x247 => (pure []) >>= fun r248 => pure (x247 :: r248)) >>= fun r250 => pure (x249 :: r250)) >>= fun r252 => pure (x251 :: r252)) >>= fun r254 => pure (x253 :: r254)) >>= fun r256 => pure (x255 :: r256)) >>= fLst) >>= fun x257 => (pure []) >>= fun r258 => pure (x257 :: r258)) >>= fun r260 => pure (x259 :: r260)) >>= mk2 m__law_chosen) >>= fun x399 => (((pure []) >>= newC) >>= fun x401 => (pure []) >>= fun r402 => pure (x401 :: r402)) >>= fun r400 => pure (x399 :: r400)) >>= mkTup) >>= fun d331 => ofO (dec2 d331) >>= fun p330 => (((pure s243 : M D) >>= rng1) >>= fun ds398 => loopM dec1 (fun (s332 : Unit) p333 => ((((pure s243 : M D) >>= rng1) >>= fun ds => compM dec1 (fun p364 => pure true) (fun p364 => ((pure p330.1 : M D) >>= fun x369 => (((pure v_source : M D) >>= fun x367 => (((pure p330.1 : M D) >>= dLen) >>= fun x365 => (pure []) >>= fun r366 => pure (x365 :: r366)) >>= fun r368 => pure (x367 :: r368)) >>= mk2 m__law_pick) >>= fun x370 => dIndex x369 x370)) ds >>= newC) >>= fun v_row_so_335 => ((((pure v_source : M D) >>= fun x357 => ((((pure (.str [45]) : M D) >>= fun x353 => ((pure (.str [45]) : M D) >>= fun x351 => ((pure (.str [45]) : M D) >>= fun x349 => ((pure (.str [48]) : M D) >>= fun x347 => (((pure v_row_so_335 : M D) >>= fun x343 => (pure p333 : M D) >>= fun x344 => dIndex x343 x344) >>= fun x345 => (pure []) >>= fun r346 => pure (x345 :: r346)) >>= fun r348 => pure (x347 :: r348)) >>= fun r350 => pure (x349 :: r350)) >>= fun r352 => pure (x351 :: r352)) >>= fun r354 => pure (x353 :: r354)) >>= fLst) >>= fun x355 => (pure []) >>= fun r356 => pure (x355 :: r356)) >>= fun r358 => pure (x357 :: r358)) >>= mk2 m__law_chosen) >>= fun x361 => (pure v_row_so_335 : M D) >>= fun x362 => (pure p333 : M D) >>= fun x363 => setC x362 x363 x361 >>= fun _ => (((pure p330.2 : M D) >>= fun x359 => isC x359 >>= fun _ => (pure v_row_so_335 : M D) >>= fun x360 => appC x359 x360) >>= fun _ => (pure (.next ())))))) ds398 () >>= fun f334 => thenL f334 fun s332 => (((((pure v_source : M D) >>= fun x375 => (((pure v_hidden : M D) >>= fun x371 => (pure (.int 1) : M D) >>= fun x372 => dAdd x371 x372) >>= fun x373 => (pure []) >>= fun r374 => pure (x373 :: r374)) >>= fun r376 => pure (x375 :: r376)) >>= mk2 m__law_pick) >>= rng1) >>= fun ds397 => loopM dec1 (fun (s377 : Unit) p378 => ((pure (.str [63]) : M D) >>= fun x390 => ((pure p330.2 : M D) >>= fun x384 => (((pure v_source : M D) >>= fun x382 => ((pure s243 : M D) >>= fun x380 => (pure []) >>= fun r381 => pure (x380 :: r381)) >>= fun r383 => pure (x382 :: r383)) >>= mk2 m__law_pick) >>= fun x385 => dIndex x384 x385) >>= fun x391 => (((pure v_source : M D) >>= fun x388 => ((pure s243 : M D) >>= fun x386 => (pure []) >>= fun r387 => pure (x386 :: r387)) >>= fun r389 => pure (x388 :: r389)) >>= mk2 m__law_pick) >>= fun x392 => setC x391 x392 x390 >>= fun _ => (pure (.next ())))) ds397 () >>= fun f379 => thenL f379 fun s377 => ((((((pure p330.2 : M D) >>= frz) >>= asW) >>= fun ds => compM dec1 (fun p393 => pure true) (fun p393 => ((pure (.str []) : M D) >>= fun x394 => isS x394 >>= fun _ => (pure p393 : M D) >>= fun x395 => dJoin x394 x395)) ds >>= fLst) >>= dTuple) >>= fun d396 => pure (.ret d396)))))))
def m__law_drawn_model (v_source v_most v_hidden : D) : M D := mB__law_drawn_model v_source v_most v_hidden >>= retM
theorem c__law_drawn_model (fx : Fx P w K mg base) : CalD P w K mg base 3 "_law_drawn_model" 3 (mk3 m__law_drawn_model) := by
  have nd : (["source", "most", "hidden", "many", "thin", "rows", "at", "row_so", "turn", "place"] : List PySem.Str).Nodup := by decide
  obtain ⟨fd, F⟩ := fx.d__law_drawn_model
  refine (cal_of (N := ["source", "most", "hidden", "many", "thin", "rows", "at", "row_so", "turn", "place"]) (ps := ["source", "most", "hidden"]) (eN := eE) (k := 2) (mB := fun ds => match ds with | [v_source, v_most, v_hidden] => mB__law_drawn_model v_source v_most v_hidden | _ => M.stuck) F fx.g__law_drawn_model ⟨rfl, rfl, rfl, by decide, rfl, by decide, by decide⟩ (fun _ _ _ _ _ _ us hl => match us, hl with | [_, _, _], _ => rfl) (fun cdv A outer s H E ds hl hcd hr => ?_)).to ?_
  · match ds, hl with
    | [v_source, v_most, v_hidden], _ => exact (db_set 3 (de_op2 op_addA rd_add de_int (de_call (c__law_pick fx) hr (by first | decide | omega) rfl (passF (L2N.takes_of rfl rfl rfl rfl)) (da_cons (de_var 0 rfl rfl (visB rfl) rfl rfl) (da_cons (de_var 1 rfl rfl (visB rfl) rfl rfl) da_nil rfl) rfl) rfl rfl rfl rfl rfl (mk2_len _))) nd rfl (locB rfl) rfl (by first | exact .inl rfl | exact .inr rfl) (fun v_many_226 => (db_if (e' := fun (s243 : D) => [.val v_source, .val v_most, .val v_hidden, .val s243, .none, .none, .none, .none, .none, .none]) (DW.dt (dw_and (dt_cmp op_gt rd_gt (de_var 1 rfl rfl (visB rfl) rfl rfl) de_int rfl) (dw_and1 (dt_cmp op_gt rd_gt (de_call (c__law_pick fx) hr (by first | decide | omega) rfl (passF (L2N.takes_of rfl rfl rfl rfl)) (da_cons (de_var 0 rfl rfl (visB rfl) rfl rfl) (da_cons de_int da_nil rfl) rfl) rfl rfl rfl rfl rfl (mk2_len _)) de_int rfl)))) (db_set 3 (de_b2 (call_max2 rfl) rc_max2 rfl fx.b_max rfl (de_var 3 rfl rfl (visB rfl) rfl rfl) de_int (by decide) rfl rfl rfl) nd rfl (locB rfl) rfl (by first | exact .inl rfl | exact .inr rfl) (fun v_many_244 => (db_nil (s := v_many_244) (.k (.k (.k (.k (.k (.k (.k (.k (.k (.k .nil))))))))))))) (db_nil (s := v_many_226) (.k (.k (.k (.k (.k (.k (.k (.k (.k (.k .nil))))))))))) (fun s243 => (db_asg (de_tup (da_cons (de_call (c__law_chosen fx) hr (by first | decide | omega) rfl (passF (L2N.takes_of rfl rfl rfl rfl)) (da_cons (de_var 0 rfl rfl (visB rfl) rfl rfl) (da_cons (de_lstF fLst_ok (da_cons (de_str rfl rfl) (da_cons (de_str rfl rfl) (da_cons (de_str rfl rfl) (da_cons (de_str rfl rfl) (da_cons (de_str rfl rfl) da_nil rfl) rfl) rfl) rfl) rfl)) da_nil rfl) rfl) rfl rfl rfl rfl rfl (mk2_len _)) (da_cons (de_lstF newC_ok da_nil) da_nil rfl) rfl)) (g_tup2 4 5) (pg_tup rfl (pgs_cons (pg_name nd rfl (locB rfl)) (pgs_cons (pg_name nd rfl (locB rfl)) pgs_nil))) rfl rfl rfl (fun p330 => (db_for (es := fun (s332 : Unit) => [.val v_source, .val v_most, .val v_hidden, .val s243, .val p330.1, .val p330.2, .none, .none, .none, .none]) () (.k (.k (.k (.k (.k (.k (.k (.k (.k (.k .nil)))))))))) (passes_of rfl) rfl (g_name 6) (di_range1 rfl fx.b_range (de_var 3 rfl rfl (visB rfl) rfl rfl) rfl) (pg_name nd rfl (locB rfl)) (fun _ => rfl) (fun s332 p333 => (db_setLc (own := [("place", 9)]) 7 newC_ok rfl nd rfl rfl (by rfl) (g_name 9) (by decide) (di_range1 rfl fx.b_range (de_var 3 rfl rfl (visB rfl) rfl rfl) rfl) (blkOk_by rfl) (fun _ _ _ _ _ => (pg_name nd rfl (locB rfl))) (fun _ _ _ _ _ p364 => dts_nil) (fun _ _ _ _ _ p364 => (de_ix (de_var 4 rfl rfl (visB rfl) rfl rfl) (de_call (c__law_pick fx) hr (by first | decide | omega) rfl passB (da_cons (de_var 0 rfl rfl (visB rfl) rfl rfl) (da_cons (de_b1 cr_lenA rc_len rfl fx.b_len rfl (de_var 4 rfl rfl (visB rfl) rfl rfl) (by decide) rfl rfl) da_nil rfl) rfl) rfl rfl rfl rfl rfl (mk2_len _)) (fun _ _ => rfl))) (fun _ => rfl) (fun v_row_so_335 => (db_setIx (de_call (c__law_chosen fx) hr (by first | decide | omega) rfl (passF (L2N.takes_of rfl rfl rfl rfl)) (da_cons (de_var 0 rfl rfl (visB rfl) rfl rfl) (da_cons (de_lstF fLst_ok (da_cons (de_str rfl rfl) (da_cons (de_str rfl rfl) (da_cons (de_str rfl rfl) (da_cons (de_str rfl rfl) (da_cons (de_ix (de_var 7 rfl rfl (visB rfl) rfl rfl) (de_var 6 rfl rfl (visB rfl) rfl rfl) (fun _ _ => rfl)) da_nil rfl) rfl) rfl) rfl) rfl)) da_nil rfl) rfl) rfl rfl rfl rfl rfl (mk2_len _)) (de_var 7 rfl rfl (visB rfl) rfl rfl) (de_var 6 rfl rfl (visB rfl) rfl rfl) rfl rfl rfl (fun _ => rfl) (db_expr (de_append (de_var 5 rfl rfl (visB rfl) rfl rfl) (de_var 7 rfl rfl (visB rfl) rfl rfl) rfl rfl rfl rfl) rfl (db_nil (s := ()) (.k (.k (.k (.k (.k (.k (.n (.n (.k (.k .nil)))))))))))))))) (fun s332 => (db_for (es := fun (s377 : Unit) => [.val v_source, .val v_most, .val v_hidden, .val s243, .val p330.1, .val p330.2, .none, .none, .none, .none]) () (.k (.k (.k (.k (.k (.k (.k (.k (.k (.k .nil)))))))))) (passes_of rfl) rfl (g_name 8) (di_range1 rfl fx.b_range (de_call (c__law_pick fx) hr (by first | decide | omega) rfl (passF (L2N.takes_of rfl rfl rfl rfl)) (da_cons (de_var 0 rfl rfl (visB rfl) rfl rfl) (da_cons (de_op2 op_addA rd_add (de_var 2 rfl rfl (visB rfl) rfl rfl) de_int) da_nil rfl) rfl) rfl rfl rfl rfl rfl (mk2_len _)) rfl) (pg_name nd rfl (locB rfl)) (fun _ => rfl) (fun s377 p378 => (db_setIx (de_str rfl rfl) (de_ix (de_var 5 rfl rfl (visB rfl) rfl rfl) (de_call (c__law_pick fx) hr (by first | decide | omega) rfl (passF (L2N.takes_of rfl rfl rfl rfl)) (da_cons (de_var 0 rfl rfl (visB rfl) rfl rfl) (da_cons (de_var 3 rfl rfl (visB rfl) rfl rfl) da_nil rfl) rfl) rfl rfl rfl rfl rfl (mk2_len _)) (fun _ _ => rfl)) (de_call (c__law_pick fx) hr (by first | decide | omega) rfl (passF (L2N.takes_of rfl rfl rfl rfl)) (da_cons (de_var 0 rfl rfl (visB rfl) rfl rfl) (da_cons (de_var 3 rfl rfl (visB rfl) rfl rfl) da_nil rfl) rfl) rfl rfl rfl rfl rfl (mk2_len _)) rfl rfl rfl (fun _ => rfl) (db_nil (s := ()) (.k (.k (.k (.k (.k (.k (.k (.k (.n (.k .nil))))))))))))) (fun s377 => (db_ret (de_ty1 call_tuple_of rc_tuple rfl fx.b_tuple rfl (de_lcF (own := [("row_so", 7)]) fLst_ok rfl nd (g_name 7) (by decide) (di_any (de_frz (de_var 5 rfl rfl (visB rfl) rfl rfl))) (blkOk_by rfl) (fun _ _ _ _ _ => (pg_name nd rfl (locB rfl))) (fun _ _ _ _ _ p393 => dts_nil) (fun _ _ _ _ _ p393 => (de_join (de_str rfl rfl) (de_var 7 rfl rfl (visB rfl) rfl rfl) rfl rfl rfl)) (fun _ => rfl)) (by decide) rfl rfl))))))))))))
  · intro ds hl
    match ds, hl with
    | [_, _, _], _ => rfl
def mB_Desk_model (v_self : D) : M (Fl Empty Empty) :=
  ((((pure v_self : M D) >>= dFld "Desk" "now") >>= fun x403 => (pure (.int 0) : M D) >>= fun x404 => dIndex x403 x404) >>= fun d405 => pure (.ret d405))
def m_Desk_model (v_self : D) : M D := mB_Desk_model v_self >>= retM
theorem c_Desk_model (fx : Fx P w K mg base) : PrpD P w K mg base 1 "Desk" "model" m_Desk_model := by
  have nd : (["self"] : List PySem.Str).Nodup := by decide
  obtain ⟨fd, F⟩ := fx.d_Desk_model
  refine ⟨⟨_, _, fd, ["self"], fx.pr_Desk_model, fn_to (fnOk_body (N := ["self"]) (ps := ["self"]) (eN := eE) (k := 0) (mB := fun ds => match ds with | [v_self] => mB_Desk_model v_self | _ => M.stuck) F ⟨rfl, rfl, rfl, by decide, rfl, by decide, by decide⟩ (fun cdv A outer s H E ds hl hr => ?_)) ?_, F.bindsN (fun _ _ _ _ _ _ us hl => match us, hl with | [_], _ => rfl)⟩⟩
  · match ds, hl with
    | [v_self], _ => exact (db_ret (de_ix (de_fld fx.fl_Desk_now (de_var 0 rfl rfl (visB rfl) rfl rfl) rfl) de_int (fun _ _ => rfl)))
  · intro ds hl
    match ds, hl with
    | [_], _ => rfl
def mB_Desk_held (v_self : D) : M (Fl Empty Empty) :=
  ((((pure v_self : M D) >>= dFld "Desk" "now") >>= fun x406 => (pure (.int 1) : M D) >>= fun x407 => dIndex x406 x407) >>= fun d408 => pure (.ret d408))
def m_Desk_held (v_self : D) : M D := mB_Desk_held v_self >>= retM
theorem c_Desk_held (fx : Fx P w K mg base) : PrpD P w K mg base 1 "Desk" "held" m_Desk_held := by
  have nd : (["self"] : List PySem.Str).Nodup := by decide
  obtain ⟨fd, F⟩ := fx.d_Desk_held
  refine ⟨⟨_, _, fd, ["self"], fx.pr_Desk_held, fn_to (fnOk_body (N := ["self"]) (ps := ["self"]) (eN := eE) (k := 0) (mB := fun ds => match ds with | [v_self] => mB_Desk_held v_self | _ => M.stuck) F ⟨rfl, rfl, rfl, by decide, rfl, by decide, by decide⟩ (fun cdv A outer s H E ds hl hr => ?_)) ?_, F.bindsN (fun _ _ _ _ _ _ us hl => match us, hl with | [_], _ => rfl)⟩⟩
  · match ds, hl with
    | [v_self], _ => exact (db_ret (de_ix (de_fld fx.fl_Desk_now (de_var 0 rfl rfl (visB rfl) rfl rfl) rfl) de_int (fun _ _ => rfl)))
  · intro ds hl
    match ds, hl with
    | [_], _ => rfl
def m_Desk_lines (v_self : D) : M (List D) := (((((pure v_self : M D) >>= dFld "Desk" "past") >>= (dList fLst)) >>= asW) >>= genL dec2 (fun p => p.2))
theorem c_Desk_lines (fx : Fx P w K mg base) : GMetD P w K mg base 2 "Desk" "lines" m_Desk_lines := by
  have nd : (["self", "before", "line"] : List PySem.Str).Nodup := by decide
  obtain ⟨fd, F⟩ := fx.d_Desk_lines
  refine ⟨⟨_, fd, ["self"], fx.mt_Desk_lines, gfn_body (N := ["self", "before", "line"]) (k := 1) F ⟨rfl, rfl, rfl, by decide, rfl, by decide, by decide⟩ (fun cdv A outer s H E pn v_self hr => ?_), F.bindsN (fun _ _ _ _ _ _ us hl => match us, hl with | [_], _ => rfl)⟩⟩
  refine gen_for (X := gcxOf P w K mg base ["self", "before", "line"] "Desk.lines" (defScope (mem (top 27) 11)) (He.ma K (He.ga K "Desk") "lines") cdv A outer s H E pn) (E := E) (σd := [.val v_self, .none, .none]) (dec := dec2) (mi := ((((pure v_self : M D) >>= dFld "Desk" "past") >>= (dList fLst)) >>= asW)) (out := fun p => p.2) owns_gcx rfl (g_tup2 1 2) ?_ ?_ (fun _ => rfl) (fun _ => .k (.n (.n .nil))) (fun p => ?_) rfl rfl
  · exact (di_any (de_ty1 call_list_of (rc_list fLst_ok) rfl fx.b_list rfl (de_fld fx.fl_Desk_past (de_var 0 rfl rfl (visB rfl) rfl rfl) rfl) (by decide) rfl rfl))
  · exact (pg_tup rfl (pgs_cons (pg_name nd rfl (locB rfl)) (pgs_cons (pg_name nd rfl (locB rfl)) pgs_nil)))
  · exact (de_var 2 rfl rfl (visB rfl) rfl rfl)
def mB_Desk___len__ (v_self : D) : M (Fl Empty Empty) :=
  ((((pure v_self : M D) >>= dFld "Desk" "past") >>= dLen) >>= fun d409 => pure (.ret d409))
def m_Desk___len__ (v_self : D) : M D := mB_Desk___len__ v_self >>= retM
theorem c_Desk___len__ (fx : Fx P w K mg base) : MetD P w K mg base 1 "Desk" "__len__" (mk1 m_Desk___len__) := by
  have nd : (["self"] : List PySem.Str).Nodup := by decide
  obtain ⟨fd, F⟩ := fx.d_Desk___len__
  refine ⟨⟨_, fx.mt_Desk___len__, fnR_body (N := ["self"]) (ps := ["self"]) (eN := eE) (k := 0) (mB := fun ds => match ds with | [v_self] => mB_Desk___len__ v_self | _ => M.stuck) F ⟨rfl, rfl, rfl, by decide, rfl, by decide, by decide⟩ (fun _ _ _ _ _ _ us hl => match us, hl with | [_], _ => rfl) (fun cdv A outer s H E ds hl hr => ?_) (mk1_len _) ?_⟩⟩
  · match ds, hl with
    | [v_self], _ => exact (db_ret (de_b1 cr_lenA rc_len rfl fx.b_len rfl (de_fld fx.fl_Desk_past (de_var 0 rfl rfl (visB rfl) rfl rfl) rfl) (by decide) rfl rfl))
  · intro ds hl
    match ds, hl with
    | [_], _ => rfl
def mB__law_look (v_thing : D) : M (Fl Empty Empty) :=
  (((((pure v_thing : M D) >>= fun x410 => insM "Desk" x410 >>= fun _ => nox (m_Desk_model x410)) >>= fun x420 => (((pure v_thing : M D) >>= fun x411 => insM "Desk" x411 >>= fun _ => nox (m_Desk_held x411)) >>= fun x418 => (((pure v_thing : M D) >>= fun x412 => recv "Desk" "lines" x412 >>= fun _ => nox (m_Desk_lines x412) >>= fLst) >>= fun x416 => (((pure v_thing : M D) >>= fun x413 => insM "Desk" x413 >>= fun _ => nox (mk1 m_Desk___len__ [x413]) >>= asLenI) >>= fun x414 => (pure []) >>= fun r415 => pure (x414 :: r415)) >>= fun r417 => pure (x416 :: r417)) >>= fun r419 => pure (x418 :: r419)) >>= fun r421 => pure (x420 :: r421)) >>= mkTup) >>= fun d422 => pure (.ret d422))
def m__law_look (v_thing : D) : M D := mB__law_look v_thing >>= retM
theorem c__law_look (fx : Fx P w K mg base) : CalD P w K mg base 6 "_law_look" 1 (mk1 m__law_look) := by
  have nd : (["thing"] : List PySem.Str).Nodup := by decide
  obtain ⟨fd, F⟩ := fx.d__law_look
  refine (cal_of (N := ["thing"]) (ps := ["thing"]) (eN := eE) (k := 5) (mB := fun ds => match ds with | [v_thing] => mB__law_look v_thing | _ => M.stuck) F fx.g__law_look ⟨rfl, rfl, rfl, by decide, rfl, by decide, by decide⟩ (fun _ _ _ _ _ _ us hl => match us, hl with | [_], _ => rfl) (fun cdv A outer s H E ds hl hcd hr => ?_)).to ?_
  · match ds, hl with
    | [v_thing], _ => exact (db_ret (de_tup (da_cons (de_prop fx.k_Desk (c_Desk_model fx) hr (by decide) (de_var 0 rfl rfl (visB rfl) rfl rfl) rfl) (da_cons (de_prop fx.k_Desk (c_Desk_held fx) hr (by decide) (de_var 0 rfl rfl (visB rfl) rfl rfl) rfl) (da_cons (de_listG fLst_ok fx.k_Desk (c_Desk_lines fx) hr (by decide) rfl fx.b_list (de_var 0 rfl rfl (visB rfl) rfl rfl) rfl rfl) (da_cons (de_lenO (c_Desk___len__ fx).spc hr (by decide) rfl fx.b_len (de_var 0 rfl rfl (visB rfl) rfl rfl) rfl) da_nil rfl) rfl) rfl) rfl)))
  · intro ds hl
    match ds, hl with
    | [_], _ => rfl
def mB_Desk_keep (v_self v_later v_line : D) : M (Fl Unit Empty) :=
  (((((pure v_self : M D) >>= dFld "Desk" "past") >>= dLen) >>= fun x423 => (pure (.int (60)) : M D) >>= fun x424 => dGe x423 x424 >>= asB) >>= fun t425 => if t425 = true then ((pure (.int (60)) : M D) >>= throwF "TooMany" "limit") >>= fun f426 => thenM f426 Empty.elim else ((((pure v_self : M D) >>= dFld "Desk" "past") >>= fun x427 => isC x427 >>= fun _ => ((((pure v_self : M D) >>= dFld "Desk" "now") >>= fun x431 => ((pure v_line : M D) >>= fun x429 => (pure []) >>= fun r430 => pure (x429 :: r430)) >>= fun r432 => pure (x431 :: r432)) >>= mkTup) >>= fun x428 => appC x427 x428) >>= fun _ => ((pure v_later : M D) >>= fun x433 => (pure v_self : M D) >>= fun x434 => setI "Desk" "now" x434 x433 >>= fun _ => (pure (.next ())))))
def m_Desk_keep (v_self v_later v_line : D) : M D := mB_Desk_keep v_self v_later v_line >>= retM
theorem c_Desk_keep (fx : Fx P w K mg base) : MetD P w K mg base 3 "Desk" "keep" (mk3 m_Desk_keep) := by
  have nd : (["self", "later", "line"] : List PySem.Str).Nodup := by decide
  obtain ⟨fd, F⟩ := fx.d_Desk_keep
  refine ⟨⟨_, fx.mt_Desk_keep, fnR_body (N := ["self", "later", "line"]) (ps := ["self", "later", "line"]) (eN := fun (_ : Unit) => [.none, .none, .none]) (k := 2) (mB := fun ds => match ds with | [v_self, v_later, v_line] => mB_Desk_keep v_self v_later v_line | _ => M.stuck) F ⟨rfl, rfl, rfl, by decide, rfl, by decide, by decide⟩ (fun _ _ _ _ _ _ us hl => match us, hl with | [_, _, _], _ => rfl) (fun cdv A outer s H E ds hl hr => ?_) (mk3_len _) ?_⟩⟩
  · match ds, hl with
    | [v_self, v_later, v_line], _ => exact (db_if1 (dt_cmp op_ge rd_ge (de_b1 cr_lenA rc_len rfl fx.b_len rfl (de_fld fx.fl_Desk_past (de_var 0 rfl rfl (visB rfl) rfl rfl) rfl) (by decide) rfl rfl) (de_gint rfl fx.v_MOST_CALLS rfl) rfl) (db_raiseF rfl (L2N.takes_of rfl rfl rfl rfl) fx.ef_TooMany hr (by decide) rfl rfl (de_gint rfl fx.v_MOST_CALLS rfl) rfl) (db_expr (de_append (de_fld fx.fl_Desk_past (de_var 0 rfl rfl (visB rfl) rfl rfl) rfl) (de_tup (da_cons (de_fld fx.fl_Desk_now (de_var 0 rfl rfl (visB rfl) rfl rfl) rfl) (da_cons (de_var 2 rfl rfl (visB rfl) rfl rfl) da_nil rfl) rfl)) rfl rfl rfl rfl) rfl (db_setF fx.fl_Desk_now (de_var 1 rfl rfl (visB rfl) rfl rfl) (de_var 0 rfl rfl (visB rfl) rfl rfl) rfl (db_nil (s := ()) (.n (.n (.n .nil)))))))
  · intro ds hl
    match ds, hl with
    | [_, _, _], _ => rfl
def mB_Desk_hold (v_self v_quantity : D) : M (Fl Empty Empty) :=
  (((pure v_self : M D) >>= dFld "Desk" "now") >>= fun d436 => ofO (dec2 d436) >>= fun p435 => ((((pure p435.1 : M D) >>= fun x439 => ((pure v_quantity : M D) >>= fun x437 => (pure []) >>= fun r438 => pure (x437 :: r438)) >>= fun r440 => pure (x439 :: r440)) >>= mk2 m_need_quantity) >>= fun _ => ((bOr ((pure v_quantity : M D) >>= fun x441 => (pure p435.2 : M D) >>= fun x442 => dIn x441 x442 >>= asB) ((((pure p435.2 : M D) >>= dLen) >>= fun x443 => (pure (.int 1) : M D) >>= fun x444 => dAdd x443 x444) >>= fun x445 => ((pure p435.1 : M D) >>= dLen) >>= fun x446 => dEq x445 x446 >>= asB)) >>= fun t447 => if t447 = true then (M.throw ⟨"InvalidQuantity", []⟩) >>= fun f448 => thenM f448 Empty.elim else (((pure v_self : M D) >>= fun x449 => recv "Desk" "keep" x449 >>= fun _ => ((((pure p435.1 : M D) >>= fun x456 => (((((pure p435.2 : M D) >>= fun x452 => (((pure v_quantity : M D) >>= fun x450 => (pure []) >>= fun r451 => pure (x450 :: r451)) >>= mkTup) >>= fun x453 => dAdd x452 x453) >>= (dSort1 fLst)) >>= dTuple) >>= fun x454 => (pure []) >>= fun r455 => pure (x454 :: r455)) >>= fun r457 => pure (x456 :: r457)) >>= mkTup) >>= fun x460 => ((joinP [(pure (.str [104, 111, 108, 100, 32]) : M D), ((pure v_quantity : M D) >>= dFmt)] []) >>= fun x458 => (pure []) >>= fun r459 => pure (x458 :: r459)) >>= fun r461 => pure (x460 :: r461)) >>= fun r462 => mk3 m_Desk_keep (x449 :: r462)) >>= fun _ => ((((pure v_self : M D) >>= dFld "Desk" "now") >>= fun x463 => (pure (.int 1) : M D) >>= fun x464 => dIndex x463 x464) >>= fun d465 => pure (.ret d465))))))
def m_Desk_hold (v_self v_quantity : D) : M D := mB_Desk_hold v_self v_quantity >>= retM
theorem c_Desk_hold (fx : Fx P w K mg base) : MetD P w K mg base 4 "Desk" "hold" (mk2 m_Desk_hold) := by
  have nd : (["self", "quantity", "model", "held"] : List PySem.Str).Nodup := by decide
  obtain ⟨fd, F⟩ := fx.d_Desk_hold
  refine ⟨⟨_, fx.mt_Desk_hold, fnR_body (N := ["self", "quantity", "model", "held"]) (ps := ["self", "quantity"]) (eN := eE) (k := 3) (mB := fun ds => match ds with | [v_self, v_quantity] => mB_Desk_hold v_self v_quantity | _ => M.stuck) F ⟨rfl, rfl, rfl, by decide, rfl, by decide, by decide⟩ (fun _ _ _ _ _ _ us hl => match us, hl with | [_, _], _ => rfl) (fun cdv A outer s H E ds hl hr => ?_) (mk2_len _) ?_⟩⟩
  · match ds, hl with
    | [v_self, v_quantity], _ => exact (db_asg (de_fld fx.fl_Desk_now (de_var 0 rfl rfl (visB rfl) rfl rfl) rfl) (g_tup2 2 3) (pg_tup rfl (pgs_cons (pg_name nd rfl (locB rfl)) (pgs_cons (pg_name nd rfl (locB rfl)) pgs_nil))) rfl rfl rfl (fun p435 => (db_expr (de_call (c_need_quantity fx) hr (by first | decide | omega) rfl (passF (L2N.takes_of rfl rfl rfl rfl)) (da_cons (de_var 2 rfl rfl (visB rfl) rfl rfl) (da_cons (de_var 1 rfl rfl (visB rfl) rfl rfl) da_nil rfl) rfl) rfl rfl rfl rfl rfl (mk2_len _)) rfl (db_if1 (DW.dt (dw_or (dt_cmp (op_inA (hu65 hr)) rd_in (de_var 1 rfl rfl (visB rfl) rfl rfl) (de_var 3 rfl rfl (visB rfl) rfl rfl) rfl) (dw_or1 (dt_cmp (op_eqD (hu64 hr)) rd_eq (de_op2 op_addA rd_add (de_b1 cr_lenA rc_len rfl fx.b_len rfl (de_var 3 rfl rfl (visB rfl) rfl rfl) (by decide) rfl rfl) de_int) (de_b1 cr_lenA rc_len rfl fx.b_len rfl (de_var 2 rfl rfl (visB rfl) rfl rfl) (by decide) rfl rfl) rfl)))) (db_raise rfl (L2N.takes_of rfl rfl rfl rfl) fx.e_InvalidQuantity rfl rfl) (db_expr (de_meth fx.k_Desk (c_Desk_keep fx) hr (by decide) (passF (L2N.takes_of rfl rfl rfl rfl)) (de_var 0 rfl rfl (visB rfl) rfl rfl) (da_cons (de_tup (da_cons (de_var 2 rfl rfl (visB rfl) rfl rfl) (da_cons (de_ty1 call_tuple_of rc_tuple rfl fx.b_tuple rfl (de_b1 (cr_sort1 (hu65 hr)) (rc_sort1 fLst_ok) rfl fx.b_sorted rfl (de_op2 op_addA rd_add (de_var 3 rfl rfl (visB rfl) rfl rfl) (de_tup (da_cons (de_var 1 rfl rfl (visB rfl) rfl rfl) da_nil rfl))) (by decide) rfl rfl) (by decide) rfl rfl) da_nil rfl) rfl)) (da_cons (de_joined (.cons (de_str rfl rfl) (.cons (de_fmt (de_var 1 rfl rfl (visB rfl) rfl rfl)) .nil))) da_nil rfl) rfl) rfl rfl rfl) rfl (db_ret (de_ix (de_fld fx.fl_Desk_now (de_var 0 rfl rfl (visB rfl) rfl rfl) rfl) de_int (fun _ _ => rfl))))))))
  · intro ds hl
    match ds, hl with
    | [_, _], _ => rfl
def mB_Desk_free (v_self v_quantity : D) : M (Fl Empty Empty) :=
  (((pure v_self : M D) >>= dFld "Desk" "now") >>= fun d467 => ofO (dec2 d467) >>= fun p466 => ((((pure p466.1 : M D) >>= fun x470 => ((pure v_quantity : M D) >>= fun x468 => (pure []) >>= fun r469 => pure (x468 :: r469)) >>= fun r471 => pure (x470 :: r471)) >>= mk2 m_need_quantity) >>= fun _ => (((pure v_quantity : M D) >>= fun x472 => (pure p466.2 : M D) >>= fun x473 => dNotIn x472 x473 >>= asB) >>= fun t474 => if t474 = true then (M.throw ⟨"InvalidQuantity", []⟩) >>= fun f475 => thenM f475 Empty.elim else (((pure v_self : M D) >>= fun x476 => recv "Desk" "keep" x476 >>= fun _ => ((((pure p466.1 : M D) >>= fun x482 => (((((pure p466.2 : M D) >>= asW) >>= fun ds => compM dec1 (fun p477 => ((pure p477 : M D) >>= fun x478 => (pure v_quantity : M D) >>= fun x479 => dNe x478 x479 >>= asB)) (fun p477 => (pure p477 : M D)) ds >>= fLst) >>= dTuple) >>= fun x480 => (pure []) >>= fun r481 => pure (x480 :: r481)) >>= fun r483 => pure (x482 :: r483)) >>= mkTup) >>= fun x486 => ((joinP [(pure (.str [102, 114, 101, 101, 32]) : M D), ((pure v_quantity : M D) >>= dFmt)] []) >>= fun x484 => (pure []) >>= fun r485 => pure (x484 :: r485)) >>= fun r487 => pure (x486 :: r487)) >>= fun r488 => mk3 m_Desk_keep (x476 :: r488)) >>= fun _ => ((((pure v_self : M D) >>= dFld "Desk" "now") >>= fun x489 => (pure (.int 1) : M D) >>= fun x490 => dIndex x489 x490) >>= fun d491 => pure (.ret d491))))))
def m_Desk_free (v_self v_quantity : D) : M D := mB_Desk_free v_self v_quantity >>= retM
theorem c_Desk_free (fx : Fx P w K mg base) : MetD P w K mg base 4 "Desk" "free" (mk2 m_Desk_free) := by
  have nd : (["self", "quantity", "model", "held", "one"] : List PySem.Str).Nodup := by decide
  obtain ⟨fd, F⟩ := fx.d_Desk_free
  refine ⟨⟨_, fx.mt_Desk_free, fnR_body (N := ["self", "quantity", "model", "held", "one"]) (ps := ["self", "quantity"]) (eN := eE) (k := 3) (mB := fun ds => match ds with | [v_self, v_quantity] => mB_Desk_free v_self v_quantity | _ => M.stuck) F ⟨rfl, rfl, rfl, by decide, rfl, by decide, by decide⟩ (fun _ _ _ _ _ _ us hl => match us, hl with | [_, _], _ => rfl) (fun cdv A outer s H E ds hl hr => ?_) (mk2_len _) ?_⟩⟩
  · match ds, hl with
    | [v_self, v_quantity], _ => exact (db_asg (de_fld fx.fl_Desk_now (de_var 0 rfl rfl (visB rfl) rfl rfl) rfl) (g_tup2 2 3) (pg_tup rfl (pgs_cons (pg_name nd rfl (locB rfl)) (pgs_cons (pg_name nd rfl (locB rfl)) pgs_nil))) rfl rfl rfl (fun p466 => (db_expr (de_call (c_need_quantity fx) hr (by first | decide | omega) rfl (passF (L2N.takes_of rfl rfl rfl rfl)) (da_cons (de_var 2 rfl rfl (visB rfl) rfl rfl) (da_cons (de_var 1 rfl rfl (visB rfl) rfl rfl) da_nil rfl) rfl) rfl rfl rfl rfl rfl (mk2_len _)) rfl (db_if1 (dt_cmp (op_notInA (hu65 hr)) rd_notIn (de_var 1 rfl rfl (visB rfl) rfl rfl) (de_var 3 rfl rfl (visB rfl) rfl rfl) rfl) (db_raise rfl (L2N.takes_of rfl rfl rfl rfl) fx.e_InvalidQuantity rfl rfl) (db_expr (de_meth fx.k_Desk (c_Desk_keep fx) hr (by decide) (passF (L2N.takes_of rfl rfl rfl rfl)) (de_var 0 rfl rfl (visB rfl) rfl rfl) (da_cons (de_tup (da_cons (de_var 2 rfl rfl (visB rfl) rfl rfl) (da_cons (de_ty1 call_tuple_of rc_tuple rfl fx.b_tuple rfl (de_lcF (own := [("one", 4)]) fLst_ok rfl nd (g_name 4) (by decide) (di_any (de_var 3 rfl rfl (visB rfl) rfl rfl)) (blkOk_by rfl) (fun _ _ _ _ _ => (pg_name nd rfl (locB rfl))) (fun _ _ _ _ _ p477 => dts_one (dt_cmp (op_neD (hu64 hr)) rd_ne (de_var 4 rfl rfl (visB rfl) rfl rfl) (de_var 1 rfl rfl (visB rfl) rfl rfl) rfl)) (fun _ _ _ _ _ p477 => (de_var 4 rfl rfl (visB rfl) rfl rfl)) (fun _ => rfl)) (by decide) rfl rfl) da_nil rfl) rfl)) (da_cons (de_joined (.cons (de_str rfl rfl) (.cons (de_fmt (de_var 1 rfl rfl (visB rfl) rfl rfl)) .nil))) da_nil rfl) rfl) rfl rfl rfl) rfl (db_ret (de_ix (de_fld fx.fl_Desk_now (de_var 0 rfl rfl (visB rfl) rfl rfl) rfl) de_int (fun _ _ => rfl))))))))
  · intro ds hl
    match ds, hl with
    | [_, _], _ => rfl
def mB_Desk_undo (v_self : D) : M (Fl Unit Empty) :=
  ((((pure v_self : M D) >>= dFld "Desk" "past") >>= fun x492 => ((pure []) >>= fLst) >>= fun x493 => dEqC x492 x493 >>= asB) >>= fun t494 => if t494 = true then (M.throw ⟨"NothingToUndo", []⟩) >>= fun f495 => thenM f495 Empty.elim else (((((pure v_self : M D) >>= dFld "Desk" "past") >>= popC) >>= fun x496 => (pure (.int 0) : M D) >>= fun x497 => dIndex x496 x497) >>= fun x498 => (pure v_self : M D) >>= fun x499 => setI "Desk" "now" x499 x498 >>= fun _ => (pure (.next ()))))
def m_Desk_undo (v_self : D) : M D := mB_Desk_undo v_self >>= retM
theorem c_Desk_undo (fx : Fx P w K mg base) : MetD P w K mg base 1 "Desk" "undo" (mk1 m_Desk_undo) := by
  have nd : (["self"] : List PySem.Str).Nodup := by decide
  obtain ⟨fd, F⟩ := fx.d_Desk_undo
  refine ⟨⟨_, fx.mt_Desk_undo, fnR_body (N := ["self"]) (ps := ["self"]) (eN := fun (_ : Unit) => [.none]) (k := 0) (mB := fun ds => match ds with | [v_self] => mB_Desk_undo v_self | _ => M.stuck) F ⟨rfl, rfl, rfl, by decide, rfl, by decide, by decide⟩ (fun _ _ _ _ _ _ us hl => match us, hl with | [_], _ => rfl) (fun cdv A outer s H E ds hl hr => ?_) (mk1_len _) ?_⟩⟩
  · match ds, hl with
    | [v_self], _ => exact (db_if1 (dt_cmp (op_eqD (hu64 hr)) rd_eqC (de_fld fx.fl_Desk_past (de_var 0 rfl rfl (visB rfl) rfl rfl) rfl) (de_lstF fLst_ok da_nil) rfl) (db_raise rfl (L2N.takes_of rfl rfl rfl rfl) fx.e_NothingToUndo rfl rfl) (db_setF fx.fl_Desk_now (de_ix (de_pop (de_fld fx.fl_Desk_past (de_var 0 rfl rfl (visB rfl) rfl rfl) rfl) rfl rfl) de_int (fun _ _ => rfl)) (de_var 0 rfl rfl (visB rfl) rfl rfl) rfl (db_nil (s := ()) (.n .nil))))
  · intro ds hl
    match ds, hl with
    | [_], _ => rfl
def mB__law_good (v_thing v_quantity : D) : M (Fl Empty Empty) :=
  (((pure v_thing : M D) >>= fun x500 => recv "Desk" "hold" x500 >>= fun _ => ((pure v_quantity : M D) >>= fun x501 => (pure []) >>= fun r502 => pure (x501 :: r502)) >>= fun r503 => mk2 m_Desk_hold (x500 :: r503)) >>= fun _ => (((pure v_thing : M D) >>= fun x504 => recv "Desk" "undo" x504 >>= fun _ => mk1 m_Desk_undo [x504]) >>= fun _ => (((pure v_thing : M D) >>= fun x505 => recv "Desk" "hold" x505 >>= fun _ => ((pure v_quantity : M D) >>= fun x506 => (pure []) >>= fun r507 => pure (x506 :: r507)) >>= fun r508 => mk2 m_Desk_hold (x505 :: r508)) >>= fun _ => (((pure v_thing : M D) >>= fun x509 => recv "Desk" "free" x509 >>= fun _ => ((pure v_quantity : M D) >>= fun x510 => (pure []) >>= fun r511 => pure (x510 :: r511)) >>= fun r512 => mk2 m_Desk_free (x509 :: r512)) >>= fun _ => (((pure v_thing : M D) >>= fun x513 => insM "Desk" x513 >>= fun _ => nox (mk1 m_Desk___len__ [x513]) >>= asLenI) >>= fun d514 => pure (.ret d514))))))
def m__law_good (v_thing v_quantity : D) : M D := mB__law_good v_thing v_quantity >>= retM
theorem c__law_good (fx : Fx P w K mg base) : CalD P w K mg base 5 "_law_good" 2 (mk2 m__law_good) := by
  have nd : (["thing", "quantity"] : List PySem.Str).Nodup := by decide
  obtain ⟨fd, F⟩ := fx.d__law_good
  refine (cal_of (N := ["thing", "quantity"]) (ps := ["thing", "quantity"]) (eN := eE) (k := 4) (mB := fun ds => match ds with | [v_thing, v_quantity] => mB__law_good v_thing v_quantity | _ => M.stuck) F fx.g__law_good ⟨rfl, rfl, rfl, by decide, rfl, by decide, by decide⟩ (fun _ _ _ _ _ _ us hl => match us, hl with | [_, _], _ => rfl) (fun cdv A outer s H E ds hl hcd hr => ?_)).to ?_
  · match ds, hl with
    | [v_thing, v_quantity], _ => exact (db_expr (de_meth fx.k_Desk (c_Desk_hold fx) hr (by decide) (passF (L2N.takes_of rfl rfl rfl rfl)) (de_var 0 rfl rfl (visB rfl) rfl rfl) (da_cons (de_var 1 rfl rfl (visB rfl) rfl rfl) da_nil rfl) rfl rfl rfl) rfl (db_expr (de_meth0 fx.k_Desk (c_Desk_undo fx) hr (by decide) (passF (L2N.takes_of rfl rfl rfl rfl)) (de_var 0 rfl rfl (visB rfl) rfl rfl) rfl) rfl (db_expr (de_meth fx.k_Desk (c_Desk_hold fx) hr (by decide) (passF (L2N.takes_of rfl rfl rfl rfl)) (de_var 0 rfl rfl (visB rfl) rfl rfl) (da_cons (de_var 1 rfl rfl (visB rfl) rfl rfl) da_nil rfl) rfl rfl rfl) rfl (db_expr (de_meth fx.k_Desk (c_Desk_free fx) hr (by decide) (passF (L2N.takes_of rfl rfl rfl rfl)) (de_var 0 rfl rfl (visB rfl) rfl rfl) (da_cons (de_var 1 rfl rfl (visB rfl) rfl rfl) da_nil rfl) rfl rfl rfl) rfl (db_ret (de_lenO (c_Desk___len__ fx).spc hr (by decide) rfl fx.b_len (de_var 0 rfl rfl (visB rfl) rfl rfl) rfl))))))
  · intro ds hl
    match ds, hl with
    | [_, _], _ => rfl
def mB_Desk_know (v_self v_place v_sign : D) : M (Fl Empty Empty) :=
  (((pure v_self : M D) >>= dFld "Desk" "now") >>= fun d516 => ofO (dec2 d516) >>= fun p515 => ((((pure p515.1 : M D) >>= fun x519 => ((pure v_place : M D) >>= fun x517 => (pure []) >>= fun r518 => pure (x517 :: r518)) >>= fun r520 => pure (x519 :: r520)) >>= mk2 m_need_place) >>= fun _ => (((((pure p515.1 : M D) >>= fun x523 => ((pure v_place : M D) >>= fun x521 => (pure (.int 0) : M D) >>= fun x522 => dIndex x521 x522) >>= fun x524 => dIndex x523 x524) >>= fun x527 => ((pure v_place : M D) >>= fun x525 => (pure (.int 1) : M D) >>= fun x526 => dIndex x525 x526) >>= fun x528 => dIndex x527 x528) >>= fun x529 => (pure (.str [63]) : M D) >>= fun x530 => dNe x529 x530 >>= asB) >>= fun t531 => if t531 = true then (M.throw ⟨"InvalidPlace", []⟩) >>= fun f532 => thenM f532 Empty.elim else ((((((pure v_sign : M D) >>= fun x533 => (pure []) >>= fun r534 => pure (x533 :: r534)) >>= mk1 m_is_known_sign) >>= asB) >>= fun b535 => pure (!b535)) >>= fun t536 => if t536 = true then (M.throw ⟨"InvalidSign", []⟩) >>= fun f537 => thenM f537 Empty.elim else (((pure v_self : M D) >>= fun x538 => recv "Desk" "keep" x538 >>= fun _ => ((((((pure p515.1 : M D) >>= fun x543 => ((pure v_place : M D) >>= fun x541 => ((pure v_sign : M D) >>= fun x539 => (pure []) >>= fun r540 => pure (x539 :: r540)) >>= fun r542 => pure (x541 :: r542)) >>= fun r544 => pure (x543 :: r544)) >>= mk3 m_with_sign) >>= fun x547 => ((pure p515.2 : M D) >>= fun x545 => (pure []) >>= fun r546 => pure (x545 :: r546)) >>= fun r548 => pure (x547 :: r548)) >>= mkTup) >>= fun x555 => ((joinP [(pure (.str [107, 110, 111, 119, 32]) : M D), (((pure v_place : M D) >>= fun x549 => (pure (.int 0) : M D) >>= fun x550 => dIndex x549 x550) >>= dFmt), (pure (.str [32]) : M D), (((pure v_place : M D) >>= fun x551 => (pure (.int 1) : M D) >>= fun x552 => dIndex x551 x552) >>= dFmt), (pure (.str [32]) : M D), ((pure v_sign : M D) >>= dFmt)] []) >>= fun x553 => (pure []) >>= fun r554 => pure (x553 :: r554)) >>= fun r556 => pure (x555 :: r556)) >>= fun r557 => mk3 m_Desk_keep (x538 :: r557)) >>= fun _ => (((((((pure v_self : M D) >>= dFld "Desk" "now") >>= fun x558 => (pure (.int 0) : M D) >>= fun x559 => dIndex x558 x559) >>= fun x560 => (pure []) >>= fun r561 => pure (x560 :: r561)) >>= mk1 m_unknown_places) >>= dLen) >>= fun d562 => pure (.ret d562)))))))
def m_Desk_know (v_self v_place v_sign : D) : M D := mB_Desk_know v_self v_place v_sign >>= retM
theorem c_Desk_know (fx : Fx P w K mg base) : MetD P w K mg base 4 "Desk" "know" (mk3 m_Desk_know) := by
  have nd : (["self", "place", "sign", "model", "held"] : List PySem.Str).Nodup := by decide
  obtain ⟨fd, F⟩ := fx.d_Desk_know
  refine ⟨⟨_, fx.mt_Desk_know, fnR_body (N := ["self", "place", "sign", "model", "held"]) (ps := ["self", "place", "sign"]) (eN := eE) (k := 3) (mB := fun ds => match ds with | [v_self, v_place, v_sign] => mB_Desk_know v_self v_place v_sign | _ => M.stuck) F ⟨rfl, rfl, rfl, by decide, rfl, by decide, by decide⟩ (fun _ _ _ _ _ _ us hl => match us, hl with | [_, _, _], _ => rfl) (fun cdv A outer s H E ds hl hr => ?_) (mk3_len _) ?_⟩⟩
  · match ds, hl with
    | [v_self, v_place, v_sign], _ => exact (db_asg (de_fld fx.fl_Desk_now (de_var 0 rfl rfl (visB rfl) rfl rfl) rfl) (g_tup2 3 4) (pg_tup rfl (pgs_cons (pg_name nd rfl (locB rfl)) (pgs_cons (pg_name nd rfl (locB rfl)) pgs_nil))) rfl rfl rfl (fun p515 => (db_expr (de_call (c_need_place fx) hr (by first | decide | omega) rfl (passF (L2N.takes_of rfl rfl rfl rfl)) (da_cons (de_var 3 rfl rfl (visB rfl) rfl rfl) (da_cons (de_var 1 rfl rfl (visB rfl) rfl rfl) da_nil rfl) rfl) rfl rfl rfl rfl rfl (mk2_len _)) rfl (db_if1 (dt_cmp (op_neD (hu64 hr)) rd_ne (de_ix (de_ix (de_var 3 rfl rfl (visB rfl) rfl rfl) (de_ix (de_var 1 rfl rfl (visB rfl) rfl rfl) de_int (fun _ _ => rfl)) (fun _ _ => rfl)) (de_ix (de_var 1 rfl rfl (visB rfl) rfl rfl) de_int (fun _ _ => rfl)) (fun _ _ => rfl)) (de_gstr rfl fx.v_UNKNOWN rfl rfl rfl) rfl) (db_raise rfl (L2N.takes_of rfl rfl rfl rfl) fx.e_InvalidPlace rfl rfl) (db_if1 (dt_not (dt_val (de_call (c_is_known_sign fx) hr (by first | decide | omega) rfl (passF (L2N.takes_of rfl rfl rfl rfl)) (da_cons (de_var 2 rfl rfl (visB rfl) rfl rfl) da_nil rfl) rfl rfl rfl rfl rfl (mk1_len _)) (fun _ => rfl))) (db_raise rfl (L2N.takes_of rfl rfl rfl rfl) fx.e_InvalidSign rfl rfl) (db_expr (de_meth fx.k_Desk (c_Desk_keep fx) hr (by decide) (passF (L2N.takes_of rfl rfl rfl rfl)) (de_var 0 rfl rfl (visB rfl) rfl rfl) (da_cons (de_tup (da_cons (de_call (c_with_sign fx) hr (by first | decide | omega) rfl (passF (L2N.takes_of rfl rfl rfl rfl)) (da_cons (de_var 3 rfl rfl (visB rfl) rfl rfl) (da_cons (de_var 1 rfl rfl (visB rfl) rfl rfl) (da_cons (de_var 2 rfl rfl (visB rfl) rfl rfl) da_nil rfl) rfl) rfl) rfl rfl rfl rfl rfl (mk3_len _)) (da_cons (de_var 4 rfl rfl (visB rfl) rfl rfl) da_nil rfl) rfl)) (da_cons (de_joined (.cons (de_str rfl rfl) (.cons (de_fmt (de_ix (de_var 1 rfl rfl (visB rfl) rfl rfl) de_int (fun _ _ => rfl))) (.cons (de_str rfl rfl) (.cons (de_fmt (de_ix (de_var 1 rfl rfl (visB rfl) rfl rfl) de_int (fun _ _ => rfl))) (.cons (de_str rfl rfl) (.cons (de_fmt (de_var 2 rfl rfl (visB rfl) rfl rfl)) .nil))))))) da_nil rfl) rfl) rfl rfl rfl) rfl (db_ret (de_b1 cr_lenA rc_len rfl fx.b_len rfl (de_call (c_unknown_places fx) hr (by first | decide | omega) rfl (passF (L2N.takes_of rfl rfl rfl rfl)) (da_cons (de_ix (de_fld fx.fl_Desk_now (de_var 0 rfl rfl (visB rfl) rfl rfl) rfl) de_int (fun _ _ => rfl)) da_nil rfl) rfl rfl rfl rfl rfl (mk1_len _)) (by decide) rfl rfl))))))))
  · intro ds hl
    match ds, hl with
    | [_, _, _], _ => rfl
def mB_Trial_init (v_self v_desk : D) : M (Fl Unit Empty) :=
  ((pure v_desk : M D) >>= fun x567 => (pure v_self : M D) >>= fun x568 => setI "Trial" "desk" x568 x567 >>= fun _ => (((pure v_desk : M D) >>= dFld "Desk" "now") >>= fun x565 => (pure v_self : M D) >>= fun x566 => setI "Trial" "now" x566 x565 >>= fun _ => ((((pure v_desk : M D) >>= dFld "Desk" "past") >>= (dList newC)) >>= fun x563 => (pure v_self : M D) >>= fun x564 => setI "Trial" "past" x564 x563 >>= fun _ => (pure (.next ())))))
def m_Trial_init (v_self v_desk : D) : M D := mB_Trial_init v_self v_desk >>= retM
theorem c_Trial_init (fx : Fx P w K mg base) : MakD P w K mg base 1 "Trial" (mk2 m_Trial_init) := by
  have nd : (["self", "desk"] : List PySem.Str).Nodup := by decide
  obtain ⟨fd, F⟩ := fx.d_Trial_init
  refine ⟨⟨_, fx.mk_Trial, fnR_body (N := ["self", "desk"]) (ps := ["self", "desk"]) (eN := fun (_ : Unit) => [.none, .none]) (k := 0) (mB := fun ds => match ds with | [v_self, v_desk] => mB_Trial_init v_self v_desk | _ => M.stuck) F ⟨rfl, rfl, rfl, by decide, rfl, by decide, by decide⟩ (fun _ _ _ _ _ _ us hl => match us, hl with | [_, _], _ => rfl) (fun cdv A outer s H E ds hl hr => ?_) (mk2_len _) ?_⟩, fx.g_Trial⟩
  · match ds, hl with
    | [v_self, v_desk], _ => exact (db_setF fx.fl_Trial_desk (de_var 1 rfl rfl (visB rfl) rfl rfl) (de_var 0 rfl rfl (visB rfl) rfl rfl) rfl (db_setF fx.fl_Trial_now (de_fld fx.fl_Desk_now (de_var 1 rfl rfl (visB rfl) rfl rfl) rfl) (de_var 0 rfl rfl (visB rfl) rfl rfl) rfl (db_setF fx.fl_Trial_past (de_ty1 call_list_of (rc_list newC_ok) rfl fx.b_list rfl (de_fld fx.fl_Desk_past (de_var 1 rfl rfl (visB rfl) rfl rfl) rfl) (by decide) rfl rfl) (de_var 0 rfl rfl (visB rfl) rfl rfl) rfl (db_nil (s := ()) (.n (.n .nil))))))
  · intro ds hl
    match ds, hl with
    | [_, _], _ => rfl
def mB_Trial___enter__ (v_self : D) : M (Fl Empty Empty) :=
  (((pure v_self : M D) >>= dFld "Trial" "desk") >>= fun d569 => pure (.ret d569))
def m_Trial___enter__ (v_self : D) : M D := mB_Trial___enter__ v_self >>= retM
theorem c_Trial___enter__ (fx : Fx P w K mg base) : MetD P w K mg base 1 "Trial" "__enter__" (mk1 m_Trial___enter__) := by
  have nd : (["self"] : List PySem.Str).Nodup := by decide
  obtain ⟨fd, F⟩ := fx.d_Trial___enter__
  refine ⟨⟨_, fx.mt_Trial___enter__, fnR_body (N := ["self"]) (ps := ["self"]) (eN := eE) (k := 0) (mB := fun ds => match ds with | [v_self] => mB_Trial___enter__ v_self | _ => M.stuck) F ⟨rfl, rfl, rfl, by decide, rfl, by decide, by decide⟩ (fun _ _ _ _ _ _ us hl => match us, hl with | [_], _ => rfl) (fun cdv A outer s H E ds hl hr => ?_) (mk1_len _) ?_⟩⟩
  · match ds, hl with
    | [v_self], _ => exact (db_ret (de_fld fx.fl_Trial_desk (de_var 0 rfl rfl (visB rfl) rfl rfl) rfl))
  · intro ds hl
    match ds, hl with
    | [_], _ => rfl
def mB_Trial___exit__ (v_self v_kind v_value v_told : D) : M (Fl Unit Empty) :=
  (((pure v_kind : M D) >>= fun x570 => (pure .non : M D) >>= fun x571 => dIsNot x570 x571 >>= asB) >>= fun t572 => (if t572 = true then (((pure v_self : M D) >>= dFld "Trial" "now") >>= fun x577 => ((pure v_self : M D) >>= dFld "Trial" "desk") >>= fun x578 => setI "Desk" "now" x578 x577 >>= fun _ => (((pure v_self : M D) >>= dFld "Trial" "past") >>= fun x575 => ((pure v_self : M D) >>= dFld "Trial" "desk") >>= fun x576 => setI "Desk" "past" x576 x575 >>= fun _ => (pure (.next ())))) else (pure (.next ())) : M (Fl (Unit) _)) >>= fun f573 => thenM f573 fun s574 => (pure (.next ())))
def m_Trial___exit__ (v_self v_kind v_value v_told : D) : M D := mB_Trial___exit__ v_self v_kind v_value v_told >>= retM
theorem c_Trial___exit__ (fx : Fx P w K mg base) : MetD P w K mg base 1 "Trial" "__exit__" (mk4 m_Trial___exit__) := by
  have nd : (["self", "kind", "value", "told"] : List PySem.Str).Nodup := by decide
  obtain ⟨fd, F⟩ := fx.d_Trial___exit__
  refine ⟨⟨_, fx.mt_Trial___exit__, fnR_body (N := ["self", "kind", "value", "told"]) (ps := ["self", "kind", "value", "told"]) (eN := fun (_ : Unit) => [.none, .none, .none, .none]) (k := 0) (mB := fun ds => match ds with | [v_self, v_kind, v_value, v_told] => mB_Trial___exit__ v_self v_kind v_value v_told | _ => M.stuck) F ⟨rfl, rfl, rfl, by decide, rfl, by decide, by decide⟩ (fun _ _ _ _ _ _ us hl => match us, hl with | [_, _, _, _], _ => rfl) (fun cdv A outer s H E ds hl hr => ?_) (mk4_len _) ?_⟩⟩
  · match ds, hl with
    | [v_self, v_kind, v_value, v_told], _ => exact (db_if (e' := fun (s574 : Unit) => [.val v_self, .val v_kind, .val v_value, .val v_told]) (dt_cmp op_isNotA rd_isNot (de_var 1 rfl rfl (visB rfl) rfl rfl) de_non rfl) (db_setF fx.fl_Desk_now (de_fld fx.fl_Trial_now (de_var 0 rfl rfl (visB rfl) rfl rfl) rfl) (de_fld fx.fl_Trial_desk (de_var 0 rfl rfl (visB rfl) rfl rfl) rfl) rfl (db_setF fx.fl_Desk_past (de_fld fx.fl_Trial_past (de_var 0 rfl rfl (visB rfl) rfl rfl) rfl) (de_fld fx.fl_Trial_desk (de_var 0 rfl rfl (visB rfl) rfl rfl) rfl) rfl (db_nil (s := ()) (.k (.k (.k (.k .nil))))))) (db_nil (s := ()) (.k (.k (.k (.k .nil))))) (fun s574 => (db_nil (s := ()) (.n (.n (.n (.n .nil)))))))
  · intro ds hl
    match ds, hl with
    | [_, _, _, _], _ => rfl
theorem hX_of (fx : Fx P w K mg base) : ∃ fd, L2H.FnH P w K mg base (L2N.CX P w) 1 (He.ma K (He.ga K "Trial") "__exit__") fd ["self", "kind", "value", "told"] (SpD K 4 (mk4 m_Trial___exit__)) ∧ Binds K fd ["self", "kind", "value", "told"] [] := by
  have nd : (["self", "kind", "value", "told"] : List PySem.Str).Nodup := by decide
  obtain ⟨fd, F⟩ := fx.d_Trial___exit__
  refine ⟨fd, fnH_to (fnH_body (N := ["self", "kind", "value", "told"]) (ps := ["self", "kind", "value", "told"]) (eN := fun (_ : Unit) => [.none, .none, .none, .none]) (k := 0) (mB := fun ds => match ds with | [v_self, v_kind, v_value, v_told] => mB_Trial___exit__ v_self v_kind v_value v_told | _ => M.stuck) F ⟨rfl, rfl, rfl, by decide, rfl, by decide, by decide⟩ (fun cdv A outer s H E p ds hl hr => ?_)) (spD_to ?_), F.bindsN (fun _ _ _ _ _ _ us hl => match us, hl with | [_, _, _, _], _ => rfl)⟩
  · match ds, hl with
    | [v_self, v_kind, v_value, v_told], _ => exact (db_if (e' := fun (s574 : Unit) => [.val v_self, .val v_kind, .val v_value, .val v_told]) (dt_cmp op_isNotA rd_isNot (de_var 1 rfl rfl (visB rfl) rfl rfl) de_non rfl) (db_setF fx.fl_Desk_now (de_fld fx.fl_Trial_now (de_var 0 rfl rfl (visB rfl) rfl rfl) rfl) (de_fld fx.fl_Trial_desk (de_var 0 rfl rfl (visB rfl) rfl rfl) rfl) rfl (db_setF fx.fl_Desk_past (de_fld fx.fl_Trial_past (de_var 0 rfl rfl (visB rfl) rfl rfl) rfl) (de_fld fx.fl_Trial_desk (de_var 0 rfl rfl (visB rfl) rfl rfl) rfl) rfl (db_nil (s := ()) (.k (.k (.k (.k .nil))))))) (db_nil (s := ()) (.k (.k (.k (.k .nil))))) (fun s574 => (db_nil (s := ()) (.n (.n (.n (.n .nil)))))))
  · intro ds hl
    match ds, hl with
    | [_, _, _, _], _ => rfl
theorem att_of (fx : Fx P w K mg base) : AttD P w K mg base 1 (mk2 m_Trial_init) (mk1 m_Trial___enter__) (mk4 m_Trial___exit__) := by
  obtain ⟨gE, hE, FE⟩ := (c_Trial___enter__ fx).ex
  obtain ⟨gX, hX, FX⟩ := (c_Trial___exit__ fx).ex
  obtain ⟨fd, FH, hb⟩ := hX_of fx
  have z := hX.at_.symm.trans fx.mt_Trial___exit__.at_
  cases z
  exact ⟨(c_Trial_init fx).mono (by decide), ⟨⟨gE, _, fd, _, hE.at_, hE.fn, hX.at_, hX.fn, fnR_mono FE (by decide), fnR_mono FX (by decide), fnH_mono FH (by decide), hb⟩⟩, fun _ _ _ _ => rfl⟩
def mB__law_bad (v_thing v_quantity v_way : D) : M (Fl Unit Empty) :=
  (((pure v_way : M D) >>= fun x579 => (pure (.int 1) : M D) >>= fun x580 => dEq x579 x580 >>= asB) >>= fun t581 => (if t581 = true then (((pure v_thing : M D) >>= fun x584 => recv "Desk" "attempt" x584 >>= fun _ => tabC 0 "_law_bad" (lamQ "_law_bad") >>= fun _ => attM (mk2 m_Trial_init) (mk1 m_Trial___enter__) (mk4 m_Trial___exit__) (fun d585 => (((pure d585 : M D) >>= fun x588 => ((pure v_quantity : M D) >>= fun x586 => (pure []) >>= fun r587 => pure (x586 :: r587)) >>= fun r589 => pure (x588 :: r589)) >>= mk2 m__law_good)) x584) >>= fun _ => (pure (.next ()))) else (((pure v_thing : M D) >>= fun x590 => recv "Desk" "hold" x590 >>= fun _ => ((pure v_quantity : M D) >>= fun x591 => (pure []) >>= fun r592 => pure (x591 :: r592)) >>= fun r593 => mk2 m_Desk_hold (x590 :: r593)) >>= fun _ => (pure (.next ()))) : M (Fl (Unit) _)) >>= fun f582 => thenM f582 fun s583 => (((pure v_way : M D) >>= fun x594 => (pure (.int 2) : M D) >>= fun x595 => dEq x594 x595 >>= asB) >>= fun t596 => (if t596 = true then (((pure (.int 99) : M D) >>= rng1) >>= fun ds603 => loopM dec1 (fun (s599 : Unit) p600 => (((pure v_thing : M D) >>= fun x602 => recv "Desk" "undo" x602 >>= fun _ => mk1 m_Desk_undo [x602]) >>= fun _ => (pure (.next ())))) ds603 () >>= fun f601 => thenL f601 fun s599 => (pure (.next ()))) else (pure (.next ())) : M (Fl (Unit) _)) >>= fun f597 => thenM f597 fun s598 => (((pure v_thing : M D) >>= fun x604 => recv "Desk" "know" x604 >>= fun _ => ((((pure (.int 9) : M D) >>= fun x607 => ((pure (.int 9) : M D) >>= fun x605 => (pure []) >>= fun r606 => pure (x605 :: r606)) >>= fun r608 => pure (x607 :: r608)) >>= mkTup) >>= fun x611 => ((pure (.str [43]) : M D) >>= fun x609 => (pure []) >>= fun r610 => pure (x609 :: r610)) >>= fun r612 => pure (x611 :: r612)) >>= fun r613 => mk3 m_Desk_know (x604 :: r613)) >>= fun _ => (pure (.next ())))))
def m__law_bad (v_thing v_quantity v_way : D) : M D := mB__law_bad v_thing v_quantity v_way >>= retM
theorem c__law_bad (fx : Fx P w K mg base) : CalD P w K mg base 8 "_law_bad" 3 (mk3 m__law_bad) := by
  have nd : (["thing", "quantity", "way", "turn"] : List PySem.Str).Nodup := by decide
  obtain ⟨fd, F⟩ := fx.d__law_bad
  obtain ⟨fda, Fa⟩ := fx.d_Desk_attempt
  refine (cal_of (N := ["thing", "quantity", "way", "turn"]) (ps := ["thing", "quantity", "way"]) (eN := fun (_ : Unit) => [.none, .none, .none, .none]) (k := 7) (mB := fun ds => match ds with | [v_thing, v_quantity, v_way] => mB__law_bad v_thing v_quantity v_way | _ => M.stuck) F fx.g__law_bad ⟨rfl, rfl, rfl, by decide, rfl, by decide, by decide⟩ (fun _ _ _ _ _ _ us hl => match us, hl with | [_, _, _], _ => rfl) (fun cdv A outer s H E ds hl hcd hr => ?_)).to ?_
  · match ds, hl with
    | [v_thing, v_quantity, v_way], _ => exact (db_if (e' := fun (s583 : Unit) => [.val v_thing, .val v_quantity, .val v_way, .none]) (dt_cmp (op_eqD (hu64 hr)) rd_eq (de_var 2 rfl rfl (visB rfl) rfl rfl) de_int rfl) (db_expr (de_rp (pe_attempt (p := "inner") (k := 5) fx.k_Desk fx.mt_Desk_attempt Fa ⟨rfl, rfl, rfl, by decide, rfl, by decide, by decide⟩ (fun _ _ _ _ _ _ us hl => match us, hl with | [_, _], _ => rfl) rfl rfl rfl rfl rfl (att_of fx) (hr.mono (by decide)) (by decide) (dlam_tab (j := 0) (x := "_law_bad") fx.t__law_bad hcd rfl rfl (LamS1.has (p := "inner") (lamS1_by rfl))) (lamS1_by rfl) (of_decide_eq_true (by rfl)) rfl (fun _ _ _ _ _ _ => rfl) (fun A outer s H E f c' d585 hr => (de_call (c__law_good fx) hr (by first | decide | omega) rfl (passF (L2N.takes_of rfl rfl rfl rfl)) (da_cons (de_var 4 rfl rfl (visB rfl) rfl rfl) (da_cons (de_var 1 rfl rfl (visB rfl) rfl rfl) da_nil rfl) rfl) rfl rfl rfl rfl rfl (mk2_len _))) (passF (L2N.takes_of rfl rfl rfl rfl)) (fun _ _ _ _ _ _ => True.intro) (de_var 0 rfl rfl (visB rfl) rfl rfl) rfl rfl)) rfl (db_nil (s := ()) (.k (.k (.k (.k .nil)))))) (db_expr (de_meth fx.k_Desk (c_Desk_hold fx) hr (by decide) (passF (L2N.takes_of rfl rfl rfl rfl)) (de_var 0 rfl rfl (visB rfl) rfl rfl) (da_cons (de_var 1 rfl rfl (visB rfl) rfl rfl) da_nil rfl) rfl rfl rfl) rfl (db_nil (s := ()) (.k (.k (.k (.k .nil)))))) (fun s583 => (db_if (e' := fun (s598 : Unit) => [.val v_thing, .val v_quantity, .val v_way, .none]) (dt_cmp (op_eqD (hu64 hr)) rd_eq (de_var 2 rfl rfl (visB rfl) rfl rfl) de_int rfl) (db_for (es := fun (s599 : Unit) => [.val v_thing, .val v_quantity, .val v_way, .none]) () (.k (.k (.k (.k .nil)))) (passes_of rfl) rfl (g_name 3) (di_range1 rfl fx.b_range de_int rfl) (pg_name nd rfl (locB rfl)) (fun _ => rfl) (fun s599 p600 => (db_expr (de_meth0 fx.k_Desk (c_Desk_undo fx) hr (by decide) (passF (L2N.takes_of rfl rfl rfl rfl)) (de_var 0 rfl rfl (visB rfl) rfl rfl) rfl) rfl (db_nil (s := ()) (.k (.k (.k (.n .nil))))))) (fun s599 => (db_nil (s := ()) (.k (.k (.k (.k .nil))))))) (db_nil (s := ()) (.k (.k (.k (.k .nil))))) (fun s598 => (db_expr (de_meth fx.k_Desk (c_Desk_know fx) hr (by decide) (passF (L2N.takes_of rfl rfl rfl rfl)) (de_var 0 rfl rfl (visB rfl) rfl rfl) (da_cons (de_tup (da_cons de_int (da_cons de_int da_nil rfl) rfl)) (da_cons (de_str rfl rfl) da_nil rfl) rfl) rfl rfl rfl) rfl (db_nil (s := ()) (.n (.n (.n (.k .nil))))))))))
  · intro ds hl
    match ds, hl with
    | [_, _, _], _ => rfl
def mB__law_attempted (v_thing v_quantity v_way : D) : M (Fl Empty Empty) :=
  (((pure v_thing : M D) >>= fun x614 => recv "Desk" "attempt" x614 >>= fun _ => tabC 1 "_law_attempted" (lamQ "_law_attempted") >>= fun _ => attM (mk2 m_Trial_init) (mk1 m_Trial___enter__) (mk4 m_Trial___exit__) (fun d615 => (((pure d615 : M D) >>= fun x620 => ((pure v_quantity : M D) >>= fun x618 => ((pure v_way : M D) >>= fun x616 => (pure []) >>= fun r617 => pure (x616 :: r617)) >>= fun r619 => pure (x618 :: r619)) >>= fun r621 => pure (x620 :: r621)) >>= mk3 m__law_bad)) x614) >>= fun d622 => pure (.ret d622))
def m__law_attempted (v_thing v_quantity v_way : D) : M D := mB__law_attempted v_thing v_quantity v_way >>= retM
theorem c__law_attempted (fx : Fx P w K mg base) : CalD P w K mg base 11 "_law_attempted" 3 (mk3 m__law_attempted) := by
  have nd : (["thing", "quantity", "way"] : List PySem.Str).Nodup := by decide
  obtain ⟨fd, F⟩ := fx.d__law_attempted
  obtain ⟨fda, Fa⟩ := fx.d_Desk_attempt
  refine (cal_of (N := ["thing", "quantity", "way"]) (ps := ["thing", "quantity", "way"]) (eN := eE) (k := 10) (mB := fun ds => match ds with | [v_thing, v_quantity, v_way] => mB__law_attempted v_thing v_quantity v_way | _ => M.stuck) F fx.g__law_attempted ⟨rfl, rfl, rfl, by decide, rfl, by decide, by decide⟩ (fun _ _ _ _ _ _ us hl => match us, hl with | [_, _, _], _ => rfl) (fun cdv A outer s H E ds hl hcd hr => ?_)).to ?_
  · match ds, hl with
    | [v_thing, v_quantity, v_way], _ => exact (db_ret (de_rp (pe_attempt (p := "inner") (k := 8) fx.k_Desk fx.mt_Desk_attempt Fa ⟨rfl, rfl, rfl, by decide, rfl, by decide, by decide⟩ (fun _ _ _ _ _ _ us hl => match us, hl with | [_, _], _ => rfl) rfl rfl rfl rfl rfl (att_of fx) (hr.mono (by decide)) (by decide) (dlam_tab (j := 1) (x := "_law_attempted") fx.t__law_attempted hcd rfl rfl (LamS1.has (p := "inner") (lamS1_by rfl))) (lamS1_by rfl) (of_decide_eq_true (by rfl)) rfl (fun _ _ _ _ _ _ => rfl) (fun A outer s H E f c' d615 hr => (de_call (c__law_bad fx) hr (by first | decide | omega) rfl (passF (L2N.takes_of rfl rfl rfl rfl)) (da_cons (de_var 3 rfl rfl (visB rfl) rfl rfl) (da_cons (de_var 1 rfl rfl (visB rfl) rfl rfl) (da_cons (de_var 2 rfl rfl (visB rfl) rfl rfl) da_nil rfl) rfl) rfl) rfl rfl rfl rfl rfl (mk3_len _))) (passF (L2N.takes_of rfl rfl rfl rfl)) (fun _ _ _ _ _ _ => True.intro) (de_var 0 rfl rfl (visB rfl) rfl rfl) rfl rfl)))
  · intro ds hl
    match ds, hl with
    | [_, _, _], _ => rfl
def mB_Desk_init (v_self v_model : D) : M (Fl Unit Empty) :=
  ((((pure v_model : M D) >>= fun x623 => (pure []) >>= fun r624 => pure (x623 :: r624)) >>= mk1 m_need_model) >>= fun _ => ((((pure v_model : M D) >>= fun x627 => (((pure []) >>= mkTup) >>= fun x625 => (pure []) >>= fun r626 => pure (x625 :: r626)) >>= fun r628 => pure (x627 :: r628)) >>= mkTup) >>= fun x631 => (pure v_self : M D) >>= fun x632 => setI "Desk" "now" x632 x631 >>= fun _ => (((pure []) >>= newC) >>= fun x629 => (pure v_self : M D) >>= fun x630 => setI "Desk" "past" x630 x629 >>= fun _ => (pure (.next ())))))
def m_Desk_init (v_self v_model : D) : M D := mB_Desk_init v_self v_model >>= retM
theorem c_Desk_init (fx : Fx P w K mg base) : MakD P w K mg base 4 "Desk" (mk2 m_Desk_init) := by
  have nd : (["self", "model"] : List PySem.Str).Nodup := by decide
  obtain ⟨fd, F⟩ := fx.d_Desk_init
  refine ⟨⟨_, fx.mk_Desk, fnR_body (N := ["self", "model"]) (ps := ["self", "model"]) (eN := fun (_ : Unit) => [.none, .none]) (k := 3) (mB := fun ds => match ds with | [v_self, v_model] => mB_Desk_init v_self v_model | _ => M.stuck) F ⟨rfl, rfl, rfl, by decide, rfl, by decide, by decide⟩ (fun _ _ _ _ _ _ us hl => match us, hl with | [_, _], _ => rfl) (fun cdv A outer s H E ds hl hr => ?_) (mk2_len _) ?_⟩, fx.g_Desk⟩
  · match ds, hl with
    | [v_self, v_model], _ => exact (db_expr (de_call (c_need_model fx) hr (by first | decide | omega) rfl (passF (L2N.takes_of rfl rfl rfl rfl)) (da_cons (de_var 1 rfl rfl (visB rfl) rfl rfl) da_nil rfl) rfl rfl rfl rfl rfl (mk1_len _)) rfl (db_setF fx.fl_Desk_now (de_tup (da_cons (de_var 1 rfl rfl (visB rfl) rfl rfl) (da_cons (de_tup da_nil) da_nil rfl) rfl)) (de_var 0 rfl rfl (visB rfl) rfl rfl) rfl (db_setF fx.fl_Desk_past (de_lstF newC_ok da_nil) (de_var 0 rfl rfl (visB rfl) rfl rfl) rfl (db_nil (s := ()) (.n (.n .nil))))))
  · intro ds hl
    match ds, hl with
    | [_, _], _ => rfl
def mB_Desk___eq__ (v_self v_other : D) : M (Fl Empty Empty) :=
  ((vAnd ((pure v_other : M D) >>= fun x633 => insM "Desk" x633 >>= fun _ => pure (.bl true)) (((pure v_self : M D) >>= dFld "Desk" "now") >>= fun x634 => ((pure v_other : M D) >>= dFld "Desk" "now") >>= fun x635 => dEq x634 x635)) >>= fun d636 => pure (.ret d636))
def m_Desk___eq__ (v_self v_other : D) : M D := mB_Desk___eq__ v_self v_other >>= retM
theorem c_Desk___eq__ (fx : Fx P w K mg base) : MetD P w K mg base 1 "Desk" "__eq__" (mk2 m_Desk___eq__) := by
  have nd : (["self", "other"] : List PySem.Str).Nodup := by decide
  obtain ⟨fd, F⟩ := fx.d_Desk___eq__
  refine ⟨⟨_, fx.mt_Desk___eq__, fnR_body (N := ["self", "other"]) (ps := ["self", "other"]) (eN := eE) (k := 0) (mB := fun ds => match ds with | [v_self, v_other] => mB_Desk___eq__ v_self v_other | _ => M.stuck) F ⟨rfl, rfl, rfl, by decide, rfl, by decide, by decide⟩ (fun _ _ _ _ _ _ us hl => match us, hl with | [_, _], _ => rfl) (fun cdv A outer s H E ds hl hr => ?_) (mk2_len _) ?_⟩⟩
  · match ds, hl with
    | [v_self, v_other], _ => exact (db_ret (de_and (de_isiO fx.ii_Desk rfl fx.b_isinstance rfl fx.g_Desk rfl (de_var 1 rfl rfl (visB rfl) rfl rfl) rfl rfl) (de_one (de_cmp (op_eqD (hu64 hr)) rd_eq (de_fld fx.fl_Desk_now (de_var 0 rfl rfl (visB rfl) rfl rfl) rfl) (de_fld fx.fl_Desk_now (de_var 1 rfl rfl (visB rfl) rfl rfl) rfl) rfl))))
  · intro ds hl
    match ds, hl with
    | [_, _], _ => rfl
def mB_law (v_script : D) : M (Fl Empty Empty) :=
  ((((pure (.int 3) : M D) >>= fun x639 => ((pure (.int 8) : M D) >>= fun x637 => ((pure v_script : M D) >>= dLen) >>= fun x638 => dMin2 x637 x638) >>= fun x640 => dMax2 x639 x640) >>= rng1) >>= fun ds881 => loopM dec1 (fun (s641 : Unit) p642 => ((((pure v_script : M D) >>= fun x647 => ((pure p642 : M D) >>= fun x645 => (pure []) >>= fun r646 => pure (x645 :: r646)) >>= fun r648 => pure (x647 :: r648)) >>= mk2 m__law_source) >>= fun v_source_644 => ((((pure v_source_644 : M D) >>= fun x654 => ((pure (.int 3) : M D) >>= fun x652 => ((pure (.int 2) : M D) >>= fun x650 => (pure []) >>= fun r651 => pure (x650 :: r651)) >>= fun r653 => pure (x652 :: r653)) >>= fun r655 => pure (x654 :: r655)) >>= mk3 m__law_drawn_model) >>= fun v_model_so_649 => (((((pure v_model_so_649 : M D) >>= dLen) >>= fun x657 => (pure (.int 1) : M D) >>= fun x658 => dGt x657 x658 >>= asB) >>= fun t663 => if t663 = true then (pure v_model_so_649 : M D) else (((pure (.str [45, 48]) : M D) >>= fun x661 => ((pure (.str [43, 45]) : M D) >>= fun x659 => (pure []) >>= fun r660 => pure (x659 :: r660)) >>= fun r662 => pure (x661 :: r662)) >>= mkTup)) >>= fun v_model_so_656 => ((((((pure v_model_so_656 : M D) >>= fun x664 => (pure []) >>= fun r665 => pure (x664 :: r665)) >>= makeM "Desk" (mk2 m_Desk_init)) >>= fun x876 => (((pure []) >>= newC) >>= fun x878 => (pure []) >>= fun r879 => pure (x878 :: r879)) >>= fun r877 => pure (x876 :: r877)) >>= mkTup) >>= fun d772 => ofO (dec2 d772) >>= fun p771 => (((pure (.int 4) : M D) >>= rng1) >>= fun ds875 => loopM dec1 (fun (s773 : Unit) p774 => ((((pure v_source_644 : M D) >>= fun x779 => (((pure v_model_so_656 : M D) >>= dLen) >>= fun x777 => (pure []) >>= fun r778 => pure (x777 :: r778)) >>= fun r780 => pure (x779 :: r780)) >>= mk2 m__law_pick) >>= fun v_quantity_776 => (((pure p771.2 : M D) >>= fun x781 => isC x781 >>= fun _ => (((pure p771.1 : M D) >>= fun x783 => (pure []) >>= fun r784 => pure (x783 :: r784)) >>= mk1 m__law_look) >>= fun x782 => appC x781 x782) >>= fun _ => (((((pure (.int 0) : M D) >>= fun x789 => ((pure (.int 1) : M D) >>= fun x787 => ((pure (.int 2) : M D) >>= fun x785 => (pure []) >>= fun r786 => pure (x785 :: r786)) >>= fun r788 => pure (x787 :: r788)) >>= fun r790 => pure (x789 :: r790)) >>= mkTup) >>= asW) >>= fun ds832 => loopM dec1 (fun (s791 : Unit) p792 => ((tabX 2 "law" (lamQ "law") 244 21 >>= fun _ => wordM (((pure p771.1 : M D) >>= fun x799 => ((pure v_quantity_776 : M D) >>= fun x797 => ((pure p792 : M D) >>= fun x795 => (pure []) >>= fun r796 => pure (x795 :: r796)) >>= fun r798 => pure (x797 :: r798)) >>= fun r800 => pure (x799 :: r800)) >>= mk3 m__law_attempted)) >>= fun v_word_794 => ((bOr ((pure v_word_794 : M D) >>= fun x804 => (((pure p792 : M D) >>= fun x801 => (pure (.int 2) : M D) >>= fun x802 => dEq x801 x802 >>= asB) >>= fun t803 => if t803 = true then (pure (.str [117, 110, 100, 111]) : M D) else (pure (.str [112, 108, 97, 99, 101]) : M D)) >>= fun x805 => dNe x804 x805 >>= asB) ((((pure p771.1 : M D) >>= fun x806 => (pure []) >>= fun r807 => pure (x806 :: r807)) >>= mk1 m__law_look) >>= fun x810 => ((pure p771.2 : M D) >>= fun x808 => ((pure (.int 1) : M D) >>= dNeg) >>= fun x809 => dIndex x808 x809) >>= fun x811 => dNe x810 x811 >>= asB)) >>= fun t812 => if t812 = true then ((pure (.bl false) : M D) >>= fun d814 => pure (.ret d814)) >>= fun f813 => thenM f813 Empty.elim else (pure (.next ()))))) ds832 () >>= fun f793 => thenL f793 fun s791 => ((((pure p771.1 : M D) >>= fun x815 => recv "Desk" "attempt" x815 >>= fun _ => tabX 2 "law" (lamQ "law") 244 21 >>= fun _ => attM (mk2 m_Trial_init) (mk1 m_Trial___enter__) (mk4 m_Trial___exit__) (fun d816 => (((pure d816 : M D) >>= fun x819 => ((pure v_quantity_776 : M D) >>= fun x817 => (pure []) >>= fun r818 => pure (x817 :: r818)) >>= fun r820 => pure (x819 :: r820)) >>= mk2 m__law_good)) x815) >>= fun x827 => ((((pure p771.2 : M D) >>= fun x821 => ((pure (.int 1) : M D) >>= dNeg) >>= fun x822 => dIndex x821 x822) >>= fun x823 => (pure (.int 3) : M D) >>= fun x824 => dIndex x823 x824) >>= fun x825 => (pure (.int 2) : M D) >>= fun x826 => dAdd x825 x826) >>= fun x828 => dNe x827 x828 >>= asB) >>= fun t829 => if t829 = true then ((pure (.bl false) : M D) >>= fun d831 => pure (.ret d831)) >>= fun f830 => thenM f830 Empty.elim else (pure (.next ()))))))) ds875 () >>= fun f775 => thenL f775 fun s773 => ((((pure p771.2 : M D) >>= dRevL fLst) >>= asW) >>= fun ds874 => loopM dec1 (fun (s833 : Unit) p834 => (((pure (.int 2) : M D) >>= rng1) >>= fun ds847 => loopM dec1 (fun (s836 : Unit) p837 => (((pure p771.1 : M D) >>= fun x839 => recv "Desk" "undo" x839 >>= fun _ => mk1 m_Desk_undo [x839]) >>= fun _ => (pure (.next ())))) ds847 () >>= fun f838 => thenL f838 fun s836 => (((((pure p771.1 : M D) >>= fun x840 => (pure []) >>= fun r841 => pure (x840 :: r841)) >>= mk1 m__law_look) >>= fun x842 => (pure p834 : M D) >>= fun x843 => dNe x842 x843 >>= asB) >>= fun t844 => if t844 = true then ((pure (.bl false) : M D) >>= fun d846 => pure (.ret d846)) >>= fun f845 => thenM f845 Empty.elim else (pure (.next ()))))) ds874 () >>= fun f835 => thenL f835 fun s833 => ((bOr ((tabX 2 "law" (lamQ "law") 244 21 >>= fun _ => wordM ((pure p771.1 : M D) >>= fun x848 => recv "Desk" "undo" x848 >>= fun _ => mk1 m_Desk_undo [x848])) >>= fun x849 => (pure (.str [117, 110, 100, 111]) : M D) >>= fun x850 => dNe x849 x850 >>= asB) ((pure p771.1 : M D) >>= fun x853 => (((pure v_model_so_656 : M D) >>= fun x851 => (pure []) >>= fun r852 => pure (x851 :: r852)) >>= makeM "Desk" (mk2 m_Desk_init)) >>= fun x854 => dNeO "Desk" (mk2 m_Desk___eq__) x853 x854 >>= asB)) >>= fun t855 => if t855 = true then ((pure (.bl false) : M D) >>= fun d857 => pure (.ret d857)) >>= fun f856 => thenM f856 Empty.elim else ((((pure p771.1 : M D) >>= fun x858 => recv "Desk" "attempt" x858 >>= fun _ => tabX 2 "law" (lamQ "law") 244 21 >>= fun _ => attM (mk2 m_Trial_init) (mk1 m_Trial___enter__) (mk4 m_Trial___exit__) (fun d859 => (pure (.int 7) : M D)) x858) >>= fun x860 => (pure (.int 7) : M D) >>= fun x861 => dNe x860 x861 >>= asB) >>= fun t862 => if t862 = true then ((pure (.bl false) : M D) >>= fun d864 => pure (.ret d864)) >>= fun f863 => thenM f863 Empty.elim else (((tabN 2 "law" (lamQ "law") 244 21 (lamQ (lamQ "law")) >>= fun n865 => wordM ((pure p771.1 : M D) >>= fun x866 => recv "Desk" "attempt" x866 >>= fun _ => tabI n865 (lamQ (lamQ "law")) >>= fun _ => attM (mk2 m_Trial_init) (mk1 m_Trial___enter__) (mk4 m_Trial___exit__) (fun d867 => ((pure d867 : M D) >>= fun x868 => recv "Desk" "undo" x868 >>= fun _ => mk1 m_Desk_undo [x868])) x866)) >>= fun x869 => (pure (.str [117, 110, 100, 111]) : M D) >>= fun x870 => dNe x869 x870 >>= asB) >>= fun t871 => if t871 = true then ((pure (.bl false) : M D) >>= fun d873 => pure (.ret d873)) >>= fun f872 => thenM f872 Empty.elim else (pure (.next ())))))))))))) ds881 () >>= fun f643 => thenL f643 fun s641 => ((pure (.bl true) : M D) >>= fun d880 => pure (.ret d880)))
def m_law (v_script : D) : M D := mB_law v_script >>= retM
theorem law_fn (fx : Fx P w K mg base) {fd : FuncData} (F : FunD K "law" "law" (defArgs (top 38)) (defBody (top 38)) (defScope (top 38)) [] [] (He.ga K "law") fd) : FnOk P w K mg base (L2N.CX P w) 14 (He.ga K "law") fd ["script"] (SpD K 1 (mk1 m_law)) := by
  have nd : (["script", "k", "source", "model_so", "thing", "looks", "turn", "quantity", "way", "word", "look"] : List PySem.Str).Nodup := by decide
  obtain ⟨fda, Fa⟩ := fx.d_Desk_attempt
  obtain ⟨fdw, Fw⟩ := fx.d__law_word
  refine fn_to (fn_cal (N := ["script", "k", "source", "model_so", "thing", "looks", "turn", "quantity", "way", "word", "look"]) (ps := ["script"]) (eN := eE) (k := 13) (mB := fun ds => match ds with | [v_script] => mB_law v_script | _ => M.stuck) F fx.g_law ⟨rfl, rfl, rfl, by decide, rfl, by decide, by decide⟩ (fun _ _ _ _ _ _ us hl => match us, hl with | [_], _ => rfl) (fun cdv A outer s H E ds hl hcd hr => ?_)) ?_
  · match ds, hl with
    | [v_script], _ => exact (db_for (es := fun (s641 : Unit) => [.val v_script, .none, .none, .none, .none, .none, .none, .none, .none, .none, .none]) () (.k (.k (.k (.k (.k (.k (.k (.k (.k (.k (.k .nil))))))))))) (passes_of rfl) rfl (g_name 1) (di_range1 rfl fx.b_range (de_b2 (call_max2 rfl) rc_max2 rfl fx.b_max rfl de_int (de_b2 (call_min2 rfl) rc_min2 rfl fx.b_min rfl de_int (de_b1 cr_lenA rc_len rfl fx.b_len rfl (de_var 0 rfl rfl (visB rfl) rfl rfl) (by decide) rfl rfl) (by decide) rfl rfl rfl) (by decide) rfl rfl rfl) rfl) (pg_name nd rfl (locB rfl)) (fun _ => rfl) (fun s641 p642 => (db_set 2 (de_call (c__law_source fx) hr (by first | decide | omega) rfl (passF (L2N.takes_of rfl rfl rfl rfl)) (da_cons (de_var 0 rfl rfl (visB rfl) rfl rfl) (da_cons (de_var 1 rfl rfl (visB rfl) rfl rfl) da_nil rfl) rfl) rfl rfl rfl rfl rfl (mk2_len _)) nd rfl (locB rfl) rfl (by first | exact .inl rfl | exact .inr rfl) (fun v_source_644 => (db_set 3 (de_call (c__law_drawn_model fx) hr (by first | decide | omega) rfl (passF (L2N.takes_of rfl rfl rfl rfl)) (da_cons (de_var 2 rfl rfl (visB rfl) rfl rfl) (da_cons de_int (da_cons de_int da_nil rfl) rfl) rfl) rfl rfl rfl rfl rfl (mk3_len _)) nd rfl (locB rfl) rfl (by first | exact .inl rfl | exact .inr rfl) (fun v_model_so_649 => (db_set 3 (de_ifExp (dt_cmp op_gt rd_gt (de_b1 cr_lenA rc_len rfl fx.b_len rfl (de_var 3 rfl rfl (visB rfl) rfl rfl) (by decide) rfl rfl) de_int rfl) (de_var 3 rfl rfl (visB rfl) rfl rfl) (de_tup (da_cons (de_str rfl rfl) (da_cons (de_str rfl rfl) da_nil rfl) rfl))) nd rfl (locB rfl) rfl (by first | exact .inl rfl | exact .inr rfl) (fun v_model_so_656 => (db_asg (de_tup (da_cons (de_make (c_Desk_init fx) hr (by decide) rfl (passF (L2N.takes_of rfl rfl rfl rfl)) (da_cons (de_var 3 rfl rfl (visB rfl) rfl rfl) da_nil rfl) rfl rfl rfl) (da_cons (de_lstF newC_ok da_nil) da_nil rfl) rfl)) (g_tup2 4 5) (pg_tup rfl (pgs_cons (pg_name nd rfl (locB rfl)) (pgs_cons (pg_name nd rfl (locB rfl)) pgs_nil))) rfl rfl rfl (fun p771 => (db_for (es := fun (s773 : Unit) => [.val v_script, .val p642, .val v_source_644, .val v_model_so_656, .val p771.1, .val p771.2, .none, .none, .none, .none, .none]) () (.k (.k (.k (.k (.k (.k (.k (.k (.k (.k (.k .nil))))))))))) (passes_of rfl) rfl (g_name 6) (di_range1 rfl fx.b_range de_int rfl) (pg_name nd rfl (locB rfl)) (fun _ => rfl) (fun s773 p774 => (db_set 7 (de_call (c__law_pick fx) hr (by first | decide | omega) rfl (passF (L2N.takes_of rfl rfl rfl rfl)) (da_cons (de_var 2 rfl rfl (visB rfl) rfl rfl) (da_cons (de_b1 cr_lenA rc_len rfl fx.b_len rfl (de_var 3 rfl rfl (visB rfl) rfl rfl) (by decide) rfl rfl) da_nil rfl) rfl) rfl rfl rfl rfl rfl (mk2_len _)) nd rfl (locB rfl) rfl (by first | exact .inl rfl | exact .inr rfl) (fun v_quantity_776 => (db_expr (de_append (de_var 5 rfl rfl (visB rfl) rfl rfl) (de_call (c__law_look fx) hr (by first | decide | omega) rfl (passF (L2N.takes_of rfl rfl rfl rfl)) (da_cons (de_var 4 rfl rfl (visB rfl) rfl rfl) da_nil rfl) rfl rfl rfl rfl rfl (mk1_len _)) rfl rfl rfl rfl) rfl (db_for (es := fun (s791 : Unit) => [.val v_script, .val p642, .val v_source_644, .val v_model_so_656, .val p771.1, .val p771.2, .val p774, .val v_quantity_776, .none, .none, .none]) () (.k (.k (.k (.k (.k (.k (.k (.k (.k (.k (.k .nil))))))))))) (passes_of rfl) rfl (g_name 8) (di_any (de_tup (da_cons de_int (da_cons de_int (da_cons de_int da_nil rfl) rfl) rfl))) (pg_name nd rfl (locB rfl)) (fun _ => rfl) (fun s791 p792 => (db_set 9 (de_word (k := 11) Fw fx.g__law_word rfl ⟨rfl, rfl, rfl, by decide, rfl, by decide, by decide⟩ (fun _ _ _ _ _ _ us hl => match us, hl with | [_], _ => rfl) rfl rfl rfl rfl rfl fx.we (dlam_X (j := 2) (x := "law") (l := 244) (m := 21) fx.t_law hcd rfl rfl (LamX.LamS.has (LamX.lamS_by rfl)) (of_decide_eq_true (by rfl))).g (hr.mono (by decide)) (LamX.lamS_by rfl) rfl (fun _ _ _ _ _ => rfl) (fun A outer s H E f c' _ hr => (pe_rp (de_call (c__law_attempted fx) hr (by first | decide | omega) rfl (passF (L2N.takes_of rfl rfl rfl rfl)) (da_cons (de_var 4 rfl rfl (visB rfl) rfl rfl) (da_cons (de_var 7 rfl rfl (visB rfl) rfl rfl) (da_cons (de_var 8 rfl rfl (visB rfl) rfl rfl) da_nil rfl) rfl) rfl) rfl rfl rfl rfl rfl (mk3_len _)))) rfl) nd rfl (locB rfl) rfl (by first | exact .inl rfl | exact .inr rfl) (fun v_word_794 => (db_if1 (DW.dt (dw_or (dt_cmp (op_neD (hu64 hr)) rd_ne (de_var 9 rfl rfl (visB rfl) rfl rfl) (de_ifExp (dt_cmp (op_eqD (hu64 hr)) rd_eq (de_var 8 rfl rfl (visB rfl) rfl rfl) de_int rfl) (de_str rfl rfl) (de_str rfl rfl)) rfl) (dw_or1 (dt_cmp (op_neD (hu64 hr)) rd_ne (de_call (c__law_look fx) hr (by first | decide | omega) rfl (passF (L2N.takes_of rfl rfl rfl rfl)) (da_cons (de_var 4 rfl rfl (visB rfl) rfl rfl) da_nil rfl) rfl rfl rfl rfl rfl (mk1_len _)) (de_ix (de_var 5 rfl rfl (visB rfl) rfl rfl) (de_un un_neg ru_neg de_int) (fun _ _ => rfl)) rfl)))) (db_ret de_bl) (db_nil (s := ()) (.k (.k (.k (.k (.k (.k (.k (.k (.n (.n (.k .nil)))))))))))))))) (fun s791 => (db_if1 (dt_cmp (op_neD (hu64 hr)) rd_ne (de_rp (pe_attempt (p := "inner") (k := 5) fx.k_Desk fx.mt_Desk_attempt Fa ⟨rfl, rfl, rfl, by decide, rfl, by decide, by decide⟩ (fun _ _ _ _ _ _ us hl => match us, hl with | [_, _], _ => rfl) rfl rfl rfl rfl rfl (att_of fx) (hr.mono (by decide)) (by decide) (dlam_X (j := 2) (x := "law") (l := 244) (m := 21) fx.t_law hcd rfl rfl (LamS1.has (p := "inner") (lamS1_by rfl)) (of_decide_eq_true (by rfl))) (lamS1_by rfl) (of_decide_eq_true (by rfl)) rfl (fun _ _ _ _ _ _ => rfl) (fun A outer s H E f c' d816 hr => (de_call (c__law_good fx) hr (by first | decide | omega) rfl (passF (L2N.takes_of rfl rfl rfl rfl)) (da_cons (de_var 11 rfl rfl (visB rfl) rfl rfl) (da_cons (de_var 7 rfl rfl (visB rfl) rfl rfl) da_nil rfl) rfl) rfl rfl rfl rfl rfl (mk2_len _))) (passF (L2N.takes_of rfl rfl rfl rfl)) (fun _ _ _ _ _ _ => True.intro) (de_var 4 rfl rfl (visB rfl) rfl rfl) rfl rfl)) (de_op2 op_addA rd_add (de_ix (de_ix (de_var 5 rfl rfl (visB rfl) rfl rfl) (de_un un_neg ru_neg de_int) (fun _ _ => rfl)) de_int (fun _ _ => rfl)) de_int) rfl) (db_ret de_bl) (db_nil (s := ()) (.k (.k (.k (.k (.k (.k (.n (.n (.k (.k (.k .nil))))))))))))))))))) (fun s773 => (db_for (es := fun (s833 : Unit) => [.val v_script, .val p642, .val v_source_644, .val v_model_so_656, .val p771.1, .val p771.2, .none, .none, .none, .none, .none]) () (.k (.k (.k (.k (.k (.k (.k (.k (.k (.k (.k .nil))))))))))) (passes_of rfl) rfl (g_name 10) (di_any (de_revL fLst_ok (de_var 5 rfl rfl (visB rfl) rfl rfl))) (pg_name nd rfl (locB rfl)) (fun _ => rfl) (fun s833 p834 => (db_for (es := fun (s836 : Unit) => [.val v_script, .val p642, .val v_source_644, .val v_model_so_656, .val p771.1, .val p771.2, .none, .none, .none, .none, .val p834]) () (.k (.k (.k (.k (.k (.k (.k (.k (.k (.k (.k .nil))))))))))) (passes_of rfl) rfl (g_name 6) (di_range1 rfl fx.b_range de_int rfl) (pg_name nd rfl (locB rfl)) (fun _ => rfl) (fun s836 p837 => (db_expr (de_meth0 fx.k_Desk (c_Desk_undo fx) hr (by decide) (passF (L2N.takes_of rfl rfl rfl rfl)) (de_var 4 rfl rfl (visB rfl) rfl rfl) rfl) rfl (db_nil (s := ()) (.k (.k (.k (.k (.k (.k (.n (.k (.k (.k (.k .nil)))))))))))))) (fun s836 => (db_if1 (dt_cmp (op_neD (hu64 hr)) rd_ne (de_call (c__law_look fx) hr (by first | decide | omega) rfl (passF (L2N.takes_of rfl rfl rfl rfl)) (da_cons (de_var 4 rfl rfl (visB rfl) rfl rfl) da_nil rfl) rfl rfl rfl rfl rfl (mk1_len _)) (de_var 10 rfl rfl (visB rfl) rfl rfl) rfl) (db_ret de_bl) (db_nil (s := ()) (.k (.k (.k (.k (.k (.k (.k (.k (.k (.k (.n .nil)))))))))))))))) (fun s833 => (db_if1 (DW.dt (dw_or (dt_cmp (op_neD (hu64 hr)) rd_ne (de_word (k := 1) Fw fx.g__law_word rfl ⟨rfl, rfl, rfl, by decide, rfl, by decide, by decide⟩ (fun _ _ _ _ _ _ us hl => match us, hl with | [_], _ => rfl) rfl rfl rfl rfl rfl fx.we (dlam_X (j := 2) (x := "law") (l := 244) (m := 21) fx.t_law hcd rfl rfl (LamX.LamS.has (LamX.lamS_by rfl)) (of_decide_eq_true (by rfl))).g (hr.mono (by decide)) (LamX.lamS_by rfl) rfl (fun _ _ _ _ _ => rfl) (fun A outer s H E f c' _ hr => (pe_rp (de_meth0 fx.k_Desk (c_Desk_undo fx) hr (by decide) (passF (L2N.takes_of rfl rfl rfl rfl)) (de_var 4 rfl rfl (visB rfl) rfl rfl) rfl))) rfl) (de_str rfl rfl) rfl) (dw_or1 (dt_cmp (op_neO (c_Desk___eq__ fx).spc fx.nq_Desk hr (by decide)) rd_neO (de_var 4 rfl rfl (visB rfl) rfl rfl) (de_make (c_Desk_init fx) hr (by decide) rfl (passF (L2N.takes_of rfl rfl rfl rfl)) (da_cons (de_var 3 rfl rfl (visB rfl) rfl rfl) da_nil rfl) rfl rfl rfl) rfl)))) (db_ret de_bl) (db_if1 (dt_cmp (op_neD (hu64 hr)) rd_ne (de_rp (pe_attempt (p := "inner") (k := 1) fx.k_Desk fx.mt_Desk_attempt Fa ⟨rfl, rfl, rfl, by decide, rfl, by decide, by decide⟩ (fun _ _ _ _ _ _ us hl => match us, hl with | [_, _], _ => rfl) rfl rfl rfl rfl rfl (att_of fx) (hr.mono (by decide)) (by decide) (dlam_X (j := 2) (x := "law") (l := 244) (m := 21) fx.t_law hcd rfl rfl (LamS1.has (p := "inner") (lamS1_by rfl)) (of_decide_eq_true (by rfl))) (lamS1_by rfl) (of_decide_eq_true (by rfl)) rfl (fun _ _ _ _ _ _ => rfl) (fun A outer s H E f c' d859 hr => de_int) (passF (L2N.takes_of rfl rfl rfl rfl)) (fun _ _ _ _ _ _ => True.intro) (de_var 4 rfl rfl (visB rfl) rfl rfl) rfl rfl)) de_int rfl) (db_ret de_bl) (db_if1 (dt_cmp (op_neD (hu64 hr)) rd_ne (de_word (k := 3) Fw fx.g__law_word rfl ⟨rfl, rfl, rfl, by decide, rfl, by decide, by decide⟩ (fun _ _ _ _ _ _ us hl => match us, hl with | [_], _ => rfl) rfl rfl rfl rfl rfl fx.we (dlam_N (j := 2) (x := "law") (l := 244) (m := 21) (qi := lamQ (lamQ "law")) fx.t_law hcd rfl rfl (LamX.LamS.has (LamX.lamS_by rfl)) (of_decide_eq_true (by rfl))) (hr.mono (by decide)) (LamX.lamS_by rfl) rfl (fun _ _ _ _ _ => rfl) (fun A outer s H E f c' n865 hr => (pe_attempt (p := "inner") (k := 1) fx.k_Desk fx.mt_Desk_attempt Fa ⟨rfl, rfl, rfl, by decide, rfl, by decide, by decide⟩ (fun _ _ _ _ _ _ us hl => match us, hl with | [_, _], _ => rfl) rfl rfl rfl rfl rfl (att_of fx) (hr.mono (by decide)) (by decide) (dlam_I fx.t_law.bm rfl rfl rfl (LamS1.has (p := "inner") (lamS1_by rfl)) (of_decide_eq_true (by rfl))) (lamS1_by rfl) (of_decide_eq_true (by rfl)) rfl (fun _ _ _ _ _ _ => rfl) (fun A outer s H E f c' d867 hr => (de_meth0 fx.k_Desk (c_Desk_undo fx) hr (by decide) (passF (L2N.takes_of rfl rfl rfl rfl)) (de_var 11 rfl rfl (visB rfl) rfl rfl) rfl)) (passF (L2N.takes_of rfl rfl rfl rfl)) (fun _ _ _ _ e h => RPn.ext e h) (de_var 4 rfl rfl (visB rfl) rfl rfl) rfl rfl)) rfl) (de_str rfl rfl) rfl) (db_ret de_bl) (db_nil (s := ()) (.k (.n (.n (.n (.n (.n (.k (.k (.k (.k (.k .nil)))))))))))))))))))))))))))) (fun s641 => (db_ret de_bl)))
  · intro ds hl
    match ds, hl with
    | [_], _ => rfl
def tabsL : List (Str × Str) := [("_law_bad", lamQ "_law_bad"), ("_law_attempted", lamQ "_law_attempted"), ("law", lamQ "law")]
def tabCell (t : Str × Str) : Cell := if (t.1 == "law") = true then .tabG (some t.1) t.2 244 21 none else .tab t.1 t.2
end My
namespace My
open PySem PySem.Spec PyProof.Rows L2 DL DH DX
open TL (joinL)
/-- the mirror ends well, with this (a structure: nothing unfolds it) -/
structure Tr {α : Type} (m : M α) (st : Store) (P : α → Store → Prop) : Prop where
  ex : ∃ a s, m st = .ok a s ∧ P a s
section
variable {α β : Type} {m : M α} {f : α → M β} {st : Store} {P Q : α → Store → Prop}
theorem tr_ok {a : α} {s : Store} (e : m st = .ok a s) (h : P a s) : Tr m st P := ⟨a, s, e, h⟩
theorem tr_pure {a : α} (h : P a st) : Tr (pure a : M α) st P := tr_ok rfl h
theorem tr_get (h : Tr m st P) : ∃ a s, m st = .ok a s ∧ P a s := h.ex
theorem tr_mono (h : Tr m st P) (k : ∀ a s, P a s → Q a s) : Tr m st Q := by
  obtain ⟨a, s, e, p⟩ := h.ex
  exact tr_ok e (k a s p)
theorem tr_bind {R : β → Store → Prop} (h : Tr m st fun a s => Tr (f a) s R) : Tr (m >>= f) st R := by
  obtain ⟨a, s, e, p⟩ := h.ex
  obtain ⟨b, s2, e2, p2⟩ := p.ex
  exact tr_ok (by rw [bind_ok e]; exact e2) p2
theorem tr_then {R : β → Store → Prop} (h : Tr m st P) (k : ∀ a s, P a s → Tr (f a) s R) : Tr (m >>= f) st R := tr_bind (tr_mono h k)
theorem tr_eq {m' : M α} (e : m = m') (h : Tr m' st P) : Tr m st P := by rw [e]; exact h
theorem tr_nox (h : Tr m st P) : Tr (nox m) st P := by
  obtain ⟨a, s, e, p⟩ := tr_get h
  exact tr_ok (by unfold nox; rw [e]) p
end
theorem ii_add (i j : Int) : dAdd (.int i) (.int j) = pure (.int (i + j)) := rfl
theorem ii_sub (i j : Int) : dSub (.int i) (.int j) = pure (.int (i - j)) := rfl
theorem ii_le (i j : Int) : dLe (.int i) (.int j) = pure (.bl (decide (i ≤ j))) := rfl
theorem ii_lt (i j : Int) : dLt (.int i) (.int j) = pure (.bl (decide (i < j))) := rfl
theorem ii_ge (i j : Int) : dGe (.int i) (.int j) = pure (.bl (decide (j ≤ i))) := rfl
theorem ii_gt (i j : Int) : dGt (.int i) (.int j) = pure (.bl (decide (j < i))) := rfl
theorem ii_mul {i j : Int} (h : mulOk i j) : dMul (.int i) (.int j) = pure (.int (i * j)) := if_pos h
theorem ii_mod {i j : Int} (h : j ≠ 0) : dMod (.int i) (.int j) = pure (.int (i.fmod j)) := if_pos h
theorem ii_div {i j : Int} (h : divOk j) : dFdiv (.int i) (.int j) = pure (.int (i.fdiv j)) := if_pos h
theorem b_as (b : Bool) : asB (.bl b) = pure b := rfl
theorem i_int (i : Int) : dInt (.int i) = pure (.int i) := rfl
theorem l_len (xs : List D) : dLen (.lst xs) = pure (.int xs.length) := rfl
theorem t_len (xs : List D) : dLen (.tup xs) = pure (.int xs.length) := rfl
theorem s_len (cs : List Nat) : dLen (.str cs) = pure (.int cs.length) := rfl
theorem c_len (ns : List Int) : dLen (.scr ns) = pure (.int ns.length) := rfl
theorem m2 (g : D → D → M D) (a b : D) : mk2 g [a, b] = g a b := rfl
theorem m1 (g : D → M D) (a : D) : mk1 g [a] = g a := rfl
theorem m3 (g : D → D → D → M D) (a b c : D) : mk3 g [a, b, c] = g a b c := rfl
theorem r_ret {N : Type} (d : D) : retM (.ret d : Fl N Empty) = pure d := rfl
theorem th_ret {N N' T : Type} (d : D) (k : N' → M (Fl N T)) : thenM (.ret d : Fl N' T) k = pure (.ret d) := rfl
theorem th_next {N N' T : Type} (s : N') (k : N' → M (Fl N T)) : thenM (.next s : Fl N' T) k = k s := rfl
theorem tl_ret {N T S : Type} (d : D) (k : S → M (Fl N T)) : thenL (.ret d : Fl S Empty) k = pure (.ret d) := rfl
theorem tl_next {N T S : Type} (s : S) (k : S → M (Fl N T)) : thenL (.next s : Fl S Empty) k = k s := rfl
theorem ifT {α : Type} {a b : α} : (if true = true then a else b) = a := if_pos rfl
theorem ifF {α : Type} {a b : α} : (if false = true then a else b) = b := if_neg Bool.false_ne_true
section
variable {α : Type} {f : D → M α} {g : Unit → M α} {st : Store} {i : Nat} {xs : List D}
theorem ix_ref {k : Int} {d : D} (h : st[i]? = some (.lst xs)) (h2 : atI xs k = some d) : (dIndex (.ref i) (.int k) >>= f) st = f d st := by
  have e : dIndex (.ref i) (.int k) st = .ok d st := by
    show (match st[i]? with | some (.lst xs) => (match atI xs k with | some d => .ok d st | none => .stuck) | _ => .stuck : R D) = _
    rw [h]
    show (match atI xs k with | some d => .ok d st | none => .stuck : R D) = _
    rw [h2]
  exact bind_ok e
theorem set_ref {k : Int} {j : Nat} {v : D} (h : st[i]? = some (.lst xs)) (h2 : ixN xs.length k = some j) : (setC (.ref i) (.int k) v >>= g) st = g () (st.set i (.lst (xs.set j v))) := by
  have e : setC (.ref i) (.int k) v st = .ok () (st.set i (.lst (xs.set j v))) := by
    show (rdC i >>= fun xs => match ixN xs.length k with | some j => wrC i (.lst (xs.set j v)) | none => M.stuck) st = _
    rw [bind_ok (rdC_ok h), h2]
    rfl
  exact bind_ok e
end
/-- the source stands at i -/
def Gs (i : Nat) (st : Store) : Prop := ∃ a b : Int, st[i]? = some (.lst [.int a, .int b])
/-- from st to s: the source drawn from, cells added, all else as it was -/
structure Fr (i : Nat) (st s : Store) : Prop where
  len : st.length ≤ s.length
  keep : ∀ j, j < st.length → j ≠ i → s[j]? = st[j]?
  src : Gs i s
theorem Gs.lt {i : Nat} {st : Store} (h : Gs i st) : i < st.length := by
  obtain ⟨a, b, h⟩ := h
  exact (List.getElem?_eq_some_iff.mp h).1
theorem Fr.refl {i : Nat} {st : Store} (h : Gs i st) : Fr i st st := ⟨Nat.le_refl _, fun _ _ _ => rfl, h⟩
theorem Fr.trans {i : Nat} {s1 s2 s3 : Store} (h : Fr i s1 s2) (h' : Fr i s2 s3) : Fr i s1 s3 :=
  ⟨Nat.le_trans h.len h'.len, fun j hj ne => (h'.keep j (Nat.lt_of_lt_of_le hj h.len) ne).trans (h.keep j hj ne), h'.src⟩
theorem Fr.at {i j : Nat} {st s : Store} {c : Cell} (h : Fr i st s) (hj : st[j]? = some c) (ne : j ≠ i) : s[j]? = some c := (h.keep j (List.getElem?_eq_some_iff.mp hj).1 ne).trans hj
theorem Fr.set {i : Nat} {st : Store} (h : Gs i st) (a b : Int) : Fr i st (st.set i (.lst [.int a, .int b])) :=
  ⟨by rw [List.length_set]; exact Nat.le_refl _, fun j hj ne => List.getElem?_set_ne (Ne.symm ne), a, b, List.getElem?_set_self h.lt⟩
theorem mulSmall {i j : Int} (h1 : -(2 ^ 64) < j) (h2 : j < 2 ^ 64) : mulOk i j := .inl (.inr ⟨h1, h2⟩)
theorem pick_tr {st : Store} {i : Nat} {n : Int} (h : Gs i st) (h0 : 0 < n) (h1 : n < 1073741824) : Tr (m__law_pick (.ref i) (.int n)) st fun d s => Fr i st s ∧ ∃ r : Int, d = .int r ∧ 0 ≤ r ∧ r < n := by
  obtain ⟨a, b, hs⟩ := id h
  have hn : n ≠ 0 := by omega
  have hd : divOk n := .inl ⟨hn, by omega⟩
  have x0 : atI [D.int a, .int b] 0 = some (.int a) := rfl
  have x1 : atI [D.int a, .int b] 1 = some (.int b) := rfl
  unfold m__law_pick mB__law_pick
  simp only [M.pure_bind, M.bind_assoc]
  by_cases ha : 0 < a
  · refine tr_ok (a := .int (a.fmod n)) (s := st.set i (.lst [.int (a.fdiv n), .int b])) ?_ ⟨Fr.set h _ _, _, rfl, Int.fmod_nonneg_of_pos a h0, Int.fmod_lt_of_pos a h0⟩
    rw [ix_ref hs x0]
    simp only [ii_gt, M.pure_bind, b_as, ha, decide_true, ↓reduceIte, M.bind_assoc, th_ret, r_ret]
    rw [ix_ref hs x0]
    simp only [i_int, ii_mod hn, M.pure_bind]
    rw [ix_ref hs x0]
    simp only [i_int, ii_div hd, M.pure_bind]
    rw [set_ref hs (j := 0) rfl]
    rfl
  · refine tr_ok (a := .int ((((((b * 44497 + 9973).fmod 2147483647) * ((b * 44497 + 9973).fmod 2147483647)).fmod 2147483399).fdiv 11).fmod n)) (s := st.set i (.lst [.int a, .int ((b * 44497 + 9973).fmod 2147483647)])) ?_ ⟨Fr.set h _ _, _, rfl, Int.fmod_nonneg_of_pos _ h0, Int.fmod_lt_of_pos _ h0⟩
    have b0 := Int.fmod_nonneg_of_pos (b * 44497 + 9973) (show (0 : Int) < 2147483647 by decide)
    have b1 := Int.fmod_lt_of_pos (b * 44497 + 9973) (show (0 : Int) < 2147483647 by decide)
    rw [ix_ref hs x0]
    simp only [ii_gt, M.pure_bind, b_as, ha, decide_false, Bool.false_eq_true, ↓reduceIte, M.bind_assoc, th_ret, r_ret]
    rw [ix_ref hs x1]
    simp only [ii_mul (mulSmall (i := b) (j := 44497) (by decide) (by decide)), M.pure_bind, ii_add, i_int, ii_mod (show (2147483647 : Int) ≠ 0 by decide)]
    rw [set_ref hs (j := 1) rfl]
    have hs2 : (st.set i (.lst ([D.int a, .int b].set 1 (.int ((b * 44497 + 9973).fmod 2147483647)))))[i]? = some (.lst [.int a, .int ((b * 44497 + 9973).fmod 2147483647)]) := List.getElem?_set_self (List.getElem?_eq_some_iff.mp hs).1
    rw [ix_ref hs2 rfl, ix_ref hs2 rfl]
    simp only [ii_mul (mulSmall (i := (b * 44497 + 9973).fmod 2147483647) (j := (b * 44497 + 9973).fmod 2147483647) (by omega) (by omega)), M.pure_bind, i_int, ii_mod (show (2147483399 : Int) ≠ 0 by decide), ii_div (.inl ⟨by decide, by decide⟩ : divOk 11), ii_mod hn]
    rfl
mutual
/-- nested n deep at most, nothing longer than B -/
def szD (B : Nat) : Nat → D → Bool
  | _, .non => true
  | _, .bl _ => true
  | _, .int _ => true
  | _, .str cs => decide (cs.length ≤ B)
  | n + 1, .lst xs => decide (xs.length ≤ B) && szDs B n xs
  | n + 1, .tup xs => decide (xs.length ≤ B) && szDs B n xs
  | _, _ => false
def szDs (B : Nat) : Nat → List D → Bool
  | _, [] => true
  | n, d :: ds => szD B n d && szDs B n ds
end
theorem szDs_iff {B n : Nat} : ∀ {ds : List D}, szDs B n ds = true ↔ ∀ d ∈ ds, szD B n d = true
  | [] => by simp [szDs]
  | d :: ds => by
    unfold szDs
    rw [Bool.and_eq_true, szDs_iff]
    simp
theorem sz_tup {B n : Nat} {xs : List D} : szD B (n + 1) (.tup xs) = true ↔ xs.length ≤ B ∧ ∀ d ∈ xs, szD B n d = true := by
  rw [show szD B (n + 1) (.tup xs) = (decide (xs.length ≤ B) && szDs B n xs) by rw [szD], Bool.and_eq_true, decide_eq_true_eq, szDs_iff]
theorem sz_lst {B n : Nat} {xs : List D} : szD B (n + 1) (.lst xs) = true ↔ xs.length ≤ B ∧ ∀ d ∈ xs, szD B n d = true := by
  rw [show szD B (n + 1) (.lst xs) = (decide (xs.length ≤ B) && szDs B n xs) by rw [szD], Bool.and_eq_true, decide_eq_true_eq, szDs_iff]
theorem sz_tup0 {B : Nat} {xs : List D} : szD B 0 (.tup xs) = false := by unfold szD; rfl
theorem sz_lst0 {B : Nat} {xs : List D} : szD B 0 (.lst xs) = false := by unfold szD; rfl
mutual
theorem sz_mono {B B' : Nat} (hB : B ≤ B') : ∀ {n n' : Nat} (d : D), n ≤ n' → szD B n d = true → szD B' n' d = true
  | _, _, .non, _, _ => by unfold szD; rfl
  | _, _, .bl _, _, _ => by unfold szD; rfl
  | _, _, .int _, _, _ => by unfold szD; rfl
  | _, _, .str cs, _, h => by
    unfold szD at h ⊢
    rw [decide_eq_true_eq] at h ⊢
    omega
  | 0, _, .lst xs, _, h => by rw [sz_lst0] at h; cases h
  | 0, _, .tup xs, _, h => by rw [sz_tup0] at h; cases h
  | n + 1, 0, .lst xs, hn, h => by omega
  | n + 1, 0, .tup xs, hn, h => by omega
  | n + 1, n' + 1, .lst xs, hn, h => by
    unfold szD at h ⊢
    rw [Bool.and_eq_true, decide_eq_true_eq] at h ⊢
    exact ⟨Nat.le_trans h.1 hB, szs_mono hB xs (by omega) h.2⟩
  | n + 1, n' + 1, .tup xs, hn, h => by
    unfold szD at h ⊢
    rw [Bool.and_eq_true, decide_eq_true_eq] at h ⊢
    exact ⟨Nat.le_trans h.1 hB, szs_mono hB xs (by omega) h.2⟩
  | n, _, .scr _, _, h => by cases n <;> (unfold szD at h; cases h)
  | n, _, .fn _, _, h => by cases n <;> (unfold szD at h; cases h)
  | n, _, .ref _, _, h => by cases n <;> (unfold szD at h; cases h)
  | n, _, .adr _, _, h => by cases n <;> (unfold szD at h; cases h)
theorem szs_mono {B B' : Nat} (hB : B ≤ B') : ∀ {n n' : Nat} (ds : List D), n ≤ n' → szDs B n ds = true → szDs B' n' ds = true
  | _, _, [], _, _ => by unfold szDs; rfl
  | n, n', d :: ds, hn, h => by
    unfold szDs at h ⊢
    rw [Bool.and_eq_true] at h ⊢
    exact ⟨sz_mono hB d hn h.1, szs_mono hB ds hn h.2⟩
end
mutual
theorem sz_ok {B : Nat} : ∀ {n : Nat} (d : D), szD B n d = true → okD n d = true
  | _, .non, _ => by unfold okD; rfl
  | _, .bl _, _ => by unfold okD; rfl
  | _, .int _, _ => by unfold okD; rfl
  | _, .str cs, _ => by unfold okD; rfl
  | 0, .lst xs, h => by rw [sz_lst0] at h; cases h
  | 0, .tup xs, h => by rw [sz_tup0] at h; cases h
  | n + 1, .lst xs, h => by
    unfold szD at h
    rw [Bool.and_eq_true] at h
    unfold okD
    exact szs_ok xs h.2
  | n + 1, .tup xs, h => by
    unfold szD at h
    rw [Bool.and_eq_true] at h
    unfold okD
    exact szs_ok xs h.2
  | n, .scr _, h => by cases n <;> (unfold szD at h; cases h)
  | n, .fn _, h => by cases n <;> (unfold szD at h; cases h)
  | n, .ref _, h => by cases n <;> (unfold szD at h; cases h)
  | n, .adr _, h => by cases n <;> (unfold szD at h; cases h)
theorem szs_ok {B : Nat} : ∀ {n : Nat} (ds : List D), szDs B n ds = true → okDs n ds = true
  | _, [], _ => by unfold okDs; rfl
  | n, d :: ds, h => by
    unfold szDs at h
    rw [Bool.and_eq_true] at h
    unfold okDs
    rw [Bool.and_eq_true]
    exact ⟨sz_ok d h.1, szs_ok ds h.2⟩
end
theorem mk_tup {xs : List D} (h : xs.length ≤ 16777216) : mkTup xs = pure (.tup xs) := if_pos h
theorem f_lst {xs : List D} (h : xs.length ≤ 16777216) : fLst xs = pure (.lst xs) := if_pos h
theorem n_cel {xs : List D} {st : Store} (h : xs.length ≤ 16777216) : newC xs st = .ok (.ref st.length) (st ++ [.lst xs]) := if_pos h
/-- a comprehension whose parts are plain -/
theorem comp_pure {Pp : Type} {dec : D → Option Pp} {test : Pp → M Bool} {el : Pp → M D} {t : D → Bool} {e : D → D} : ∀ {ds : List D}, (∀ d ∈ ds, ∃ p, dec d = some p ∧ test p = pure (t d) ∧ (t d = true → el p = pure (e d))) → compM dec test el ds = pure ((ds.filter t).map e)
  | [], _ => rfl
  | d :: ds, h => by
    obtain ⟨p, h1, h2, h3⟩ := h d List.mem_cons_self
    have ih := comp_pure fun x hx => h x (List.mem_cons_of_mem _ hx)
    unfold compM
    rw [h1]
    show (nox (test p) >>= fun b => if b = true then nox (el p) >>= fun y => compM dec test el ds >>= fun r => pure (y :: r) else compM dec test el ds) = _
    rw [h2, nox_pure, M.pure_bind, ih]
    cases ht : t d with
    | true =>
      rw [if_pos rfl, h3 ht, nox_pure, M.pure_bind, M.pure_bind, List.filter_cons_of_pos ht]
      rfl
    | false => rw [if_neg Bool.false_ne_true, List.filter_cons_of_neg (by rw [ht]; exact Bool.false_ne_true)]
/-- .. whose parts draw -/
theorem comp_tr {Pp : Type} {dec : D → Option Pp} {el : Pp → M D} {i : Nat} {Pr : D → Prop} : ∀ {ds : List D} {st : Store}, Gs i st → (∀ d ∈ ds, ∃ p, dec d = some p ∧ ∀ s, Fr i st s → Tr (el p) s fun x s' => Fr i s s' ∧ Pr x) → Tr (compM dec (fun _ => pure true) el ds) st fun xs s => Fr i st s ∧ xs.length = ds.length ∧ ∀ x ∈ xs, Pr x
  | [], st, h, _ => tr_pure ⟨Fr.refl h, rfl, fun _ hx => nomatch hx⟩
  | d :: ds, st, h, hd => by
    obtain ⟨p, h1, h2⟩ := hd d List.mem_cons_self
    unfold compM
    rw [h1]
    show Tr (nox (pure true) >>= fun b => if b = true then nox (el p) >>= fun y => compM dec (fun _ => pure true) el ds >>= fun r => pure (y :: r) else compM dec (fun _ => pure true) el ds) st _
    rw [nox_pure, M.pure_bind, if_pos rfl]
    refine tr_then (tr_nox (h2 st (Fr.refl h))) fun y s1 ⟨f1, py⟩ => tr_then (comp_tr (Pr := Pr) f1.src fun x hx => ?_) fun r s2 ⟨f2, hl, hr⟩ => tr_pure ⟨f1.trans f2, by rw [List.length_cons, List.length_cons, hl], fun x hx => ?_⟩
    · obtain ⟨q, q1, q2⟩ := hd x (List.mem_cons_of_mem _ hx)
      exact ⟨q, q1, fun s hs => q2 s (f1.trans hs)⟩
    · rcases List.mem_cons.mp hx with e | hx
      · rw [e]; exact py
      · exact hr x hx
theorem at_nat {α : Type} {xs : List α} {k : Nat} {d : α} (h : xs[k]? = some d) : atI xs (k : Int) = some d := by
  have hk : k < xs.length := (List.getElem?_eq_some_iff.mp h).1
  have : ixN xs.length (k : Int) = some k := by
    unfold ixN
    rw [if_pos (by omega), if_pos (by omega)]
    rfl
  unfold atI
  rw [this]
  exact h
theorem at_int {α : Type} {xs : List α} {r : Int} (h0 : 0 ≤ r) (h1 : r < xs.length) : ∃ (k : Nat) (d : α), r = k ∧ k < xs.length ∧ xs[k]? = some d ∧ atI xs r = some d := by
  obtain ⟨k, rfl⟩ := Int.eq_ofNat_of_zero_le h0
  have hk : k < xs.length := by omega
  exact ⟨k, xs[k], rfl, hk, List.getElem?_eq_getElem hk, at_nat (List.getElem?_eq_getElem hk)⟩
theorem ix_lst {xs : List D} {k : Int} {d : D} (h : atI xs k = some d) : dIndex (.lst xs) (.int k) = pure d := by
  show (match atI xs k with | some d => pure d | none => M.stuck : M D) = _
  rw [h]
theorem ix_tup {xs : List D} {k : Int} {d : D} (h : atI xs k = some d) : dIndex (.tup xs) (.int k) = pure d := by
  show (match atI xs k with | some d => pure d | none => M.stuck : M D) = _
  rw [h]
theorem ix_str {xs : List Nat} {k : Int} {c : Nat} (h : atI xs k = some c) : dIndex (.str xs) (.int k) = pure (.str [c]) := by
  show (match atI xs k with | some d => pure (.str [d]) | none => M.stuck : M D) = _
  rw [h]
theorem chosen_tr {st : Store} {i : Nat} {xs : List D} (h : Gs i st) (h0 : xs ≠ []) (h1 : xs.length < 1073741824) : Tr (m__law_chosen (.ref i) (.lst xs)) st fun d s => Fr i st s ∧ d ∈ xs := by
  unfold m__law_chosen mB__law_chosen
  simp only [M.pure_bind, M.bind_assoc, l_len, m2, r_ret]
  have hp : 0 < xs.length := List.length_pos_iff.mpr h0
  refine tr_then (pick_tr h (by omega) (by omega)) fun d s ⟨f, r, e, r0, r1⟩ => ?_
  subst e
  obtain ⟨k, d, rfl, hk, hd, ha⟩ := at_int r0 r1
  rw [ix_lst ha, M.pure_bind]
  exact tr_pure ⟨f, List.mem_of_getElem? hd⟩
/-- the simple values -/
def simples : List D := [.non, .bl true, .bl false, .int 0, .int 1, .int 2, .int (-3), .str [], .str [43], .str [45, 48], .tup [], .lst [], .tup [.str [45, 45], .str [43, 48]], .tup [.int 0, .int 1], .tup [.tup [.int 1]]]
theorem neg_i (i : Int) : dNeg (.int i) = pure (.int (-i)) := rfl
theorem rng_1 {n : Int} (h : n < 16777216 ∧ -16777216 ≤ n) : rng1 (.int n) = pure (upFrom 0 n.toNat) := if_pos h
theorem w_lst (xs : List D) : asW (.lst xs) = pure xs := rfl
theorem w_tup (xs : List D) : asW (.tup xs) = pure xs := rfl
theorem w_str (cs : List Nat) : asW (.str cs) = pure (cs.map fun c => .str [c]) := rfl
theorem tup_lst (xs : List D) : dTuple (.lst xs) = pure (.tup xs) := rfl
theorem tup_tup (xs : List D) : dTuple (.tup xs) = pure (.tup xs) := rfl
theorem eq_ii (i j : Int) : dEq (.int i) (.int j) = pure (.bl (decide (i = j))) := by
  have e : dEq (.int i) (.int j) = pure (.bl (eqd (.int i) (.int j))) := if_pos ⟨by unfold okD; rfl, by unfold okD; rfl⟩
  rw [e]
  unfold eqd
  rfl
theorem up_mem {lo : Int} {n : Nat} {d : D} (h : d ∈ upFrom lo n) : ∃ k : Nat, k < n ∧ d = .int (lo + k) := by
  unfold upFrom at h
  obtain ⟨k, hk, rfl⟩ := List.mem_map.mp h
  exact ⟨k, List.mem_range.mp hk, rfl⟩
theorem simple_sz : ∀ d ∈ simples, szD 1000 3 d = true := by
  intro d hd
  simp only [simples, List.mem_cons, List.not_mem_nil, or_false] at hd
  rcases hd with rfl | rfl | rfl | rfl | rfl | rfl | rfl | rfl | rfl | rfl | rfl | rfl | rfl | rfl | rfl <;> rfl
theorem tr_run {α β : Type} {m : M α} {f : α → M β} {st s : Store} {a : α} {R : β → Store → Prop} (e : m st = .ok a s) (h : Tr (f a) s R) : Tr (m >>= f) st R := tr_bind (tr_ok e h)
section
variable {st : Store} {k : Nat} {xs : List D}
theorem rd_len (h : st[k]? = some (.lst xs)) : dLen (.ref k) st = .ok (.int xs.length) st := by
  show (rdC k >>= fun xs => pure (D.int xs.length)) st = _
  rw [bind_ok (rdC_ok h)]
  rfl
theorem rd_ix {r : Int} {d : D} (h : st[k]? = some (.lst xs)) (h2 : atI xs r = some d) : dIndex (.ref k) (.int r) st = .ok d st := by
  show (match st[k]? with | some (.lst xs) => (match atI xs r with | some d => .ok d st | none => .stuck) | _ => .stuck : R D) = _
  rw [h]
  show (match atI xs r with | some d => .ok d st | none => .stuck : R D) = _
  rw [h2]
theorem rd_sl {lo hi : Option Int} (h : st[k]? = some (.lst xs)) : dSlice (.ref k) lo hi st = .ok (.lst (cutL xs lo hi)) st := by
  show (match st[k]? with | some (.lst xs) => .ok (.lst (cutL xs lo hi)) st | _ => .stuck : R D) = _
  rw [h]
theorem rd_tup (h : st[k]? = some (.lst xs)) : dTuple (.ref k) st = .ok (.tup xs) st := by
  show (rdC k >>= fun xs => pure (D.tup xs)) st = _
  rw [bind_ok (rdC_ok h)]
  rfl
theorem rd_frz (h : st[k]? = some (.lst xs)) : frz (.ref k) st = .ok (.lst xs) (st.set k .dead) := by
  show (rdC k >>= fun xs => wrC k .dead >>= fun _ => pure (D.lst xs)) st = _
  rw [bind_ok (rdC_ok h)]
  rfl
theorem rd_nil (h : st[k]? = some (.lst xs)) (ho : okDs 59 xs = true) : dEqC (.ref k) (.lst []) st = .ok (.bl xs.isEmpty) st := by
  show ((rdC k >>= fun xs => pure (D.lst xs)) >>= fun x => pk (.lst []) >>= fun y => dEq x y) st = _
  rw [M.bind_assoc, bind_ok (rdC_ok h), M.pure_bind]
  show (dEq (.lst xs) (.lst [])) st = _
  have e : dEq (.lst xs) (.lst []) = pure (.bl (eqd (.lst xs) (.lst []))) := if_pos ⟨by unfold okD; exact ho, by unfold okD; unfold okDs; rfl⟩
  rw [e]
  have e2 : eqd (.lst xs) (.lst []) = xs.isEmpty := by
    unfold eqd
    cases xs with
    | nil => unfold eqds; rfl
    | cons _ _ => unfold eqds; rfl
  rw [e2]
  rfl
theorem rd_set {r : Int} {j : Nat} {v : D} (h : st[k]? = some (.lst xs)) (h2 : ixN xs.length r = some j) : setC (.ref k) (.int r) v st = .ok () (st.set k (.lst (xs.set j v))) := by
  show (rdC k >>= fun xs => match ixN xs.length r with | some j => wrC k (.lst (xs.set j v)) | none => M.stuck) st = _
  rw [bind_ok (rdC_ok h), h2]
  rfl
end
theorem list_new {st : Store} {xs : List D} (h : xs.length ≤ 16777216) : dList newC (.tup xs) st = .ok (.ref st.length) (st ++ [.lst xs]) := n_cel h
theorem Fr.push {i : Nat} {st : Store} (h : Gs i st) (c : Cell) : Fr i st (st ++ [c]) :=
  ⟨by rw [List.length_append]; omega, fun j hj _ => List.getElem?_append_left hj, let ⟨a, b, q⟩ := h; ⟨a, b, by rw [List.getElem?_append_left h.lt]; exact q⟩⟩
theorem Fr.wr {i k : Nat} {st0 st : Store} (h : Fr i st0 st) (hk : st0.length ≤ k) (hi : i < st0.length) (c : Cell) : Fr i st0 (st.set k c) :=
  ⟨by rw [List.length_set]; exact h.len, fun j hj ne => by rw [List.getElem?_set_ne (by omega)]; exact h.keep j hj ne, let ⟨a, b, q⟩ := h.src; ⟨a, b, by rw [List.getElem?_set_ne (by omega)]; exact q⟩⟩
theorem add_ll {xs ys : List D} (h : xs.length + ys.length ≤ 16777216) : dAdd (.lst xs) (.lst ys) = pure (.lst (xs ++ ys)) := if_pos h
theorem add_tt {xs ys : List D} (h : xs.length + ys.length ≤ 16777216) : dAdd (.tup xs) (.tup ys) = pure (.tup (xs ++ ys)) := if_pos h
theorem as_i (i : Int) : asI (.int i) = pure (some i) := rfl
theorem isi_tup (xs : List D) : mIsi .tuple (.tup xs) = pure (.bl true) := rfl
theorem mk_t1 (a : D) : mkTup [a] = pure (.tup [a]) := if_pos (by rw [List.length_singleton]; decide)
theorem f_l0 : fLst [] = pure (.lst []) := if_pos (by decide)
theorem isi_no {B n : Nat} {d : D} (h : szD B n d = true) : (∃ ys, d = .tup ys) ∨ mIsi .tuple d = pure (.bl false) := by
  cases d with
  | tup ys => exact .inl ⟨ys, rfl⟩
  | non => exact .inr rfl
  | bl _ => exact .inr rfl
  | int _ => exact .inr rfl
  | str _ => exact .inr rfl
  | lst _ => exact .inr rfl
  | scr _ => cases n <;> (unfold szD at h; cases h)
  | fn _ => cases n <;> (unfold szD at h; cases h)
  | ref _ => cases n <;> (unfold szD at h; cases h)
  | adr _ => cases n <;> (unfold szD at h; cases h)
  | kt _ => cases n <;> (unfold szD at h; cases h)
theorem rev_l (xs : List D) : dRevL fLst (.lst xs) = fLst xs.reverse := rfl
/-- what is put in -/
def nears : List D := [.non, .bl true, .bl false, .int 0, .int 1, .int (-1), .int 2, .int 4, .str [], .str [43], .str [45], .str [48], .str [63], .str [120], .str [43, 45], .tup [], .tup [.str [45]], .lst [.int 0], .int 1000000000000000000000000000001]
theorem near_sz : ∀ d ∈ nears, szD 1000 3 d = true := by
  intro d hd
  simp only [nears, List.mem_cons, List.not_mem_nil, or_false] at hd
  rcases hd with rfl | rfl | rfl | rfl | rfl | rfl | rfl | rfl | rfl | rfl | rfl | rfl | rfl | rfl | rfl | rfl | rfl | rfl | rfl <;> rfl
theorem pow30 : dPow (.int 10) (.int 30) = pure (.int 1000000000000000000000000000000) := rfl
theorem and_c {B n : Nat} {d : D} {deep w : Int} (h : szD B n d = true) : ∃ c : Bool, bAnd (mIsi .tuple d >>= asB) (bAnd (dGt (.int deep) (.int 0) >>= asB) (dGt (.int w) (.int 2) >>= asB)) = pure c ∧ (c = true → 1 ≤ deep ∧ ∃ ys, d = .tup ys) := by
  rcases isi_no h with ⟨ys, rfl⟩ | e
  · refine ⟨decide (0 < deep) && decide (2 < w), ?_, fun hc => ⟨?_, ys, rfl⟩⟩
    · unfold bAnd
      rw [isi_tup, M.pure_bind, b_as, M.pure_bind, if_pos rfl, ii_gt, ii_gt, M.pure_bind, M.pure_bind, b_as, b_as, M.pure_bind]
      cases decide (0 < deep) <;> rfl
    · rw [Bool.and_eq_true, decide_eq_true_eq] at hc
      omega
  · refine ⟨false, ?_, fun hc => by cases hc⟩
    unfold bAnd
    rw [e, M.pure_bind, b_as, M.pure_bind]
    rfl
theorem loop_ix {Pp S : Type} {dec : D → Option Pp} {body : S → Pp → M (Fl S S)} {I : Nat → S → Store → Prop} : ∀ {ds : List D} {k : Nat} {s : S} {st : Store}, (∀ j d, ds[j]? = some d → ∃ p, dec d = some p ∧ ∀ s st, I (k + j) s st → Tr (body s p) st fun f st' => ∃ s', f = .next s' ∧ I (k + j + 1) s' st') → I k s st → Tr (loopM dec body ds s) st fun f st' => ∃ s', f = .next s' ∧ I (k + ds.length) s' st'
  | [], k, s, st, _, h => tr_pure ⟨s, rfl, h⟩
  | d :: ds, k, s, st, hd, h => by
    obtain ⟨p, h1, h2⟩ := hd 0 d rfl
    unfold loopM
    rw [h1]
    refine tr_then (h2 s st h) fun f st1 ⟨s1, e, h3⟩ => ?_
    subst e
    have := loop_ix (k := k + 1) (ds := ds) (s := s1) (st := st1) (I := I) (dec := dec) (body := body) (fun j d hj => by
      obtain ⟨q, q1, q2⟩ := hd (j + 1) d hj
      refine ⟨q, q1, fun s st hs => ?_⟩
      have e : k + 1 + j = k + (j + 1) := by omega
      rw [e] at hs ⊢
      exact q2 s st hs) h3
    refine tr_mono this fun f st' ⟨s', e, h4⟩ => ⟨s', e, ?_⟩
    rw [List.length_cons, show k + (ds.length + 1) = k + 1 + ds.length by omega]
    exact h4
/-- a loop whose turns are alike -/
theorem loop_tr {Pp S : Type} {dec : D → Option Pp} {body : S → Pp → M (Fl S S)} {I : S → Store → Prop} {ds : List D} {s : S} {st : Store} (hd : ∀ d ∈ ds, ∃ p, dec d = some p ∧ ∀ s st, I s st → Tr (body s p) st fun f st' => ∃ s', f = .next s' ∧ I s' st') (h : I s st) : Tr (loopM dec body ds s) st fun f st' => ∃ s', f = .next s' ∧ I s' st' :=
  loop_ix (I := fun _ => I) (k := 0) (fun j d hj => hd d (List.mem_of_getElem? hj)) h
theorem pow18 : dPow (.int 10) (.int 18) = pure (.int 1000000000000000000) := rfl
theorem source_tr {ns : List Int} {k : Nat} {st : Store} (hk : k < 64) : Tr (m__law_source (.scr ns) (.int k)) st fun d s => ∃ a b : Int, d = .ref st.length ∧ s = st ++ [.lst [.int a, .int b]] := by
  unfold m__law_source mB__law_source
  simp (config := {implicitDefEqProofs := false}) only [M.pure_bind, M.bind_assoc, c_len, ii_gt, b_as, pow18, ii_mul (mulSmall (i := 60919) (j := (k : Int)) (by omega) (by omega)), ii_mul (mulSmall (i := 2) (j := (k : Int)) (by omega) (by omega))]
  have first : ∃ number : Int, (if decide ((k : Int) < ns.length) = true then dIndex (.scr ns) (.int k) >>= fun x => dInt x >>= fun v => pure (.next v) else pure (.next (.int 0)) : M (Fl D Empty)) = pure (.next (.int number)) := by
    by_cases hc : (k : Int) < ns.length
    · rw [if_pos (decide_eq_true hc)]
      have hk' : k < ns.length := by omega
      refine ⟨ns[k], ?_⟩
      have e : dIndex (.scr ns) (.int k) = pure (.int ns[k]) := by
        show (match atI ns (k : Int) with | some n => pure (.int n) | none => M.stuck : M D) = _
        rw [at_nat (List.getElem?_eq_getElem hk')]
      rw [e, M.pure_bind, i_int, M.pure_bind]
    · rw [if_neg (by rw [decide_eq_true_eq]; exact hc)]
      exact ⟨0, rfl⟩
  obtain ⟨number, e⟩ := first
  rw [e, M.pure_bind, th_next]
  have b0 := Int.fmod_nonneg_of_pos (number * 16807 + 60919 * k + 31) (show (0 : Int) < 2147481173 by decide)
  have b1 := Int.fmod_lt_of_pos (number * 16807 + 60919 * k + 31) (show (0 : Int) < 2147481173 by decide)
  simp (config := {implicitDefEqProofs := false}) only [M.pure_bind, M.bind_assoc, ii_mul (mulSmall (i := number) (j := 16807) (by decide) (by decide)), ii_add, ii_mod (show (2147481173 : Int) ≠ 0 by decide), ii_mul (mulSmall (i := (number * 16807 + 60919 * k + 31).fmod 2147481173) (j := (number * 16807 + 60919 * k + 31).fmod 2147481173) (by omega) (by omega)), ii_mod (show (2147481151 : Int) ≠ 0 by decide), ii_ge, b_as]
  by_cases hb : (1000000000000000000 : Int) ≤ number
  · rw [if_pos (decide_eq_true hb), M.pure_bind]
    exact tr_run (n_cel (show (2 : Nat) ≤ 16777216 by decide)) (tr_pure ⟨_, _, rfl, rfl⟩)
  · rw [if_neg (by rw [decide_eq_true_eq]; exact hb), M.pure_bind]
    exact tr_run (n_cel (show (2 : Nat) ≤ 16777216 by decide)) (tr_pure ⟨_, _, rfl, rfl⟩)
/-- a model's rows: m of m signs, few of them hidden -/
structure MOk (h m : Nat) (T : List (List Nat)) : Prop where
  len : T.length = m
  row : ∀ r ∈ T, r.length = m
  sgn : ∀ r ∈ T, ∀ c ∈ r, c = 43 ∨ c = 45 ∨ c = 48 ∨ c = 63
  few : (T.map (·.count 63)).sum ≤ h
def rowD (r : List Nat) : List D := r.map fun c => .str [c]
/-- the rows' cells -/
structure RowsAt (i q : Nat) (rs : List Nat) (T : List (List Nat)) (s : Store) : Prop where
  nd : rs.Nodup
  cell : s[q]? = some (.lst (rs.map D.ref))
  ln : rs.length = T.length
  row : ∀ (t r : Nat) (row : List Nat), rs[t]? = some r → T[t]? = some row → s[r]? = some (.lst (rowD row)) ∧ q < r ∧ r ≠ i
theorem RowsAt.fr {i q : Nat} {rs : List Nat} {T : List (List Nat)} {s s' : Store} (h : RowsAt i q rs T s) (f : Fr i s s') (ne : q ≠ i) : RowsAt i q rs T s' :=
  ⟨h.nd, f.at h.cell ne, h.ln, fun t r row h1 h2 => let ⟨a, b, c⟩ := h.row t r row h1 h2; ⟨f.at a c, b, c⟩⟩
theorem of_rowD {P : Nat → Prop} : ∀ {xs : List D}, (∀ x ∈ xs, ∃ c, x = .str [c] ∧ P c) → ∃ row, xs = rowD row ∧ ∀ c ∈ row, P c
  | [], _ => ⟨[], rfl, fun _ h => nomatch h⟩
  | x :: xs, h => by
    obtain ⟨c, rfl, hc⟩ := h x List.mem_cons_self
    obtain ⟨row, rfl, hr⟩ := of_rowD fun y hy => h y (List.mem_cons_of_mem _ hy)
    exact ⟨c :: row, rfl, fun d hd => by
      rcases List.mem_cons.mp hd with e | hd
      · rw [e]; exact hc
      · exact hr d hd⟩
theorem rowD_set (row : List Nat) (p c : Nat) : (rowD row).set p (.str [c]) = rowD (row.set p c) := by
  unfold rowD
  rw [List.map_set]
theorem rowD_len (row : List Nat) : (rowD row).length = row.length := List.length_map ..
/-- a sign that shows -/
def Sg (c : Nat) : Prop := c = 43 ∨ c = 45 ∨ c = 48
theorem rd_isC {s : Store} {k : Nat} {xs : List D} (h : s[k]? = some (.lst xs)) : isC (.ref k) s = .ok () s := by
  show (rdC k >>= fun _ => pure ()) s = _
  rw [bind_ok (rdC_ok h)]
  rfl
theorem rd_app {s : Store} {k : Nat} {xs : List D} {v : D} (h : s[k]? = some (.lst xs)) (hl : xs.length < 16777216) : appC (.ref k) v s = .ok .non (s.set k (.lst (xs ++ [v]))) := by
  show (rdC k >>= fun xs => if xs.length < 16777216 then wrC k (.lst (xs ++ [v])) >>= fun _ => pure D.non else M.stuck) s = _
  rw [bind_ok (rdC_ok h), if_pos hl]
  rfl
theorem ixN_nat {n p : Nat} (h : p < n) : ixN n (p : Int) = some p := by
  unfold ixN
  rw [if_pos (by omega), if_pos (by omega)]
  rfl
theorem row_turn {i q m p : Nat} {cs : List Nat} {rs : List Nat} {T : List (List Nat)} {st s : Store} (f : Fr i st s) (hq : st.length ≤ q) (hi : i < st.length) (hR : RowsAt i q rs T s) (hc0 : cs ≠ []) (hc1 : cs.length < 100) (hc : ∀ c ∈ cs, Sg c) (hm : m ≤ 4) (hp : p < m) (hrs : rs.length < 100) :
    Tr (rng1 (.int m) >>= fun x => compM dec1 (fun _ => pure true) (fun _ => dLen (.str cs) >>= fun x => m__law_pick (.ref i) x >>= fun x769 => dIndex (.str cs) x769) x >>= fun x => newC x >>= fun v => dIndex v (.int p) >>= fun x => fLst [.str [45], .str [45], .str [45], .str [48], x] >>= fun x => m__law_chosen (.ref i) x >>= fun x760 => setC v (.int p) x760 >>= fun _ => isC (.ref q) >>= fun _ => appC (.ref q) v >>= fun _ => (pure (.next ()) : M (Fl Unit Unit))) s
      fun fl s' => fl = .next () ∧ Fr i st s' ∧ ∃ r row, RowsAt i q (rs ++ [r]) (T ++ [row]) s' ∧ row.length = m ∧ ∀ c ∈ row, Sg c := by
  rw [rng_1 ⟨by omega, by omega⟩, M.pure_bind]
  have hp0 : 0 < cs.length := List.length_pos_iff.mpr hc0
  refine tr_then (comp_tr (i := i) (Pr := fun x => ∃ c, x = .str [c] ∧ Sg c) f.src fun d _ => ⟨d, rfl, fun s3 f3 => ?_⟩) fun xs s3 ⟨f3, hl, hx⟩ => ?_
  · rw [s_len, M.pure_bind]
    refine tr_then (pick_tr f3.src (by omega) (by omega)) fun d s4 ⟨f4, r, e, r0, r1⟩ => ?_
    subst e
    obtain ⟨k, c, rfl, hk, hd, ha⟩ := at_int r0 r1
    rw [ix_str ha]
    exact tr_pure ⟨f4, c, rfl, hc c (List.mem_of_getElem? hd)⟩
  rw [upFrom_len] at hl
  have hl' : xs.length = m := by omega
  obtain ⟨row, rfl, hrow⟩ := of_rowD hx
  rw [rowD_len] at hl'
  refine tr_run (n_cel (by rw [rowD_len]; omega)) ?_
  have f4 : Fr i s3 (s3 ++ [.lst (rowD row)]) := Fr.push f3.src _
  have hk4 : (s3 ++ [Cell.lst (rowD row)])[s3.length]? = some (.lst (rowD row)) := List.getElem?_concat_length
  have hpr : (rowD row)[p]? = some (.str [row[p]'(by omega)]) := by
    unfold rowD
    rw [List.getElem?_map, List.getElem?_eq_getElem (by omega)]
    rfl
  refine tr_run (rd_ix hk4 (at_nat hpr)) ?_
  rw [f_lst (xs := [D.str [45], D.str [45], D.str [45], D.str [48], D.str [row[p]'(by omega)]]) (show (5 : Nat) ≤ 16777216 by decide), M.pure_bind]
  refine tr_then (chosen_tr f4.src (fun e => nomatch e) (show (5 : Nat) < 1073741824 by decide)) fun d s5 ⟨f5, hd⟩ => ?_
  have hdc : ∃ c, d = .str [c] ∧ Sg c := by
    simp only [List.mem_cons, List.not_mem_nil, or_false] at hd
    rcases hd with rfl | rfl | rfl | rfl | rfl
    · exact ⟨45, rfl, .inr (.inl rfl)⟩
    · exact ⟨45, rfl, .inr (.inl rfl)⟩
    · exact ⟨45, rfl, .inr (.inl rfl)⟩
    · exact ⟨48, rfl, .inr (.inr rfl)⟩
    · exact ⟨_, rfl, hrow _ (List.getElem_mem _)⟩
  obtain ⟨c, rfl, hcc⟩ := hdc
  have fs := f.trans f3
  have ltq : q < s3.length := by
    have := (List.getElem?_eq_some_iff.mp (hR.fr f3 (by omega)).cell).1
    exact this
  have ner : s3.length ≠ i := by omega
  have hk5 := f5.at hk4 ner
  refine tr_run (rd_set hk5 (ixN_nat (by rw [rowD_len]; omega))) ?_
  rw [rowD_set]
  have R3 := hR.fr f3 (by omega)
  have R5 := (R3.fr f4 (by omega)).fr f5 (by omega)
  have cell6 : (s5.set s3.length (.lst (rowD (row.set p c))))[q]? = some (.lst (rs.map D.ref)) := by
    rw [List.getElem?_set_ne (by omega)]
    exact R5.cell
  refine tr_run (rd_isC cell6) ?_
  refine tr_run (rd_app cell6 (by rw [List.length_map]; omega)) ?_
  have lt5 : s3.length < s5.length := (List.getElem?_eq_some_iff.mp hk5).1
  refine tr_pure ⟨rfl, ?_, s3.length, row.set p c, ⟨?_, ?_, ?_, ?_⟩, by rw [List.length_set]; exact hl', fun e he => ?_⟩
  · exact Fr.wr (Fr.wr ((fs.trans f4).trans f5) (by have := fs.len; omega) hi _) hq hi _
  · rw [List.nodup_append]
    refine ⟨hR.nd, List.nodup_cons.mpr ⟨List.not_mem_nil, List.nodup_nil⟩, fun a ha b hb e => ?_⟩
    rw [List.mem_singleton] at hb
    obtain ⟨t, ht⟩ := List.mem_iff_getElem?.mp ha
    have htl : t < T.length := by rw [← hR.ln]; exact (List.getElem?_eq_some_iff.mp ht).1
    have := (List.getElem?_eq_some_iff.mp (R3.row t a _ ht (List.getElem?_eq_getElem htl)).1).1
    omega
  · rw [List.getElem?_set_self (by rw [List.length_set]; omega), List.map_append]
    rfl
  · rw [List.length_append, List.length_append, hR.ln]
    rfl
  · intro t r row' h1 h2
    by_cases ht : t < rs.length
    · rw [List.getElem?_append_left ht] at h1
      rw [List.getElem?_append_left (by rw [← hR.ln]; exact ht)] at h2
      obtain ⟨x1, x2, x3⟩ := R5.row t r row' h1 h2
      have := (List.getElem?_eq_some_iff.mp (R3.row t r row' h1 h2).1).1
      refine ⟨?_, x2, x3⟩
      rw [List.getElem?_set_ne (by omega), List.getElem?_set_ne (by omega)]
      exact x1
    · have ht2 : t = rs.length := by
        have := (List.getElem?_eq_some_iff.mp h1).1
        rw [List.length_append, List.length_singleton] at this
        omega
      subst ht2
      rw [List.getElem?_append_right (Nat.le_refl _), Nat.sub_self] at h1
      rw [hR.ln, List.getElem?_append_right (Nat.le_refl _), Nat.sub_self] at h2
      cases h1
      cases h2
      refine ⟨?_, ltq, ner⟩
      rw [List.getElem?_set_ne (by omega), List.getElem?_set_self lt5]
  · rcases List.mem_or_eq_of_mem_set he with q | q
    · exact hrow e q
    · rw [q]; exact hcc
theorem cnt_row : ∀ (row : List Nat) (b : Nat), (row.set b 63).count 63 ≤ row.count 63 + 1
  | [], _ => by simp
  | c :: row, 0 => by
    show (63 :: row).count 63 ≤ _
    rw [List.count_cons_self]
    have : row.count 63 ≤ (c :: row).count 63 := by rw [List.count_cons]; omega
    omega
  | c :: row, b + 1 => by
    show (c :: row.set b 63).count 63 ≤ _
    have := cnt_row row b
    rw [List.count_cons, List.count_cons]
    omega
theorem cnt_set : ∀ (T : List (List Nat)) (a : Nat) (row row' : List Nat), T[a]? = some row → row'.count 63 ≤ row.count 63 + 1 → ((T.set a row').map (·.count 63)).sum ≤ (T.map (·.count 63)).sum + 1
  | [], _, _, _, h, _ => nomatch h
  | r :: T, 0, row, row', h, h2 => by
    cases h
    show (row'.count 63) + _ ≤ (r.count 63) + _ + 1
    omega
  | r :: T, a + 1, row, row', h, h2 => by
    have := cnt_set T a row row' h h2
    rw [List.set_cons_succ, List.map_cons, List.map_cons, List.sum_cons, List.sum_cons]
    omega
theorem hide_turn {i q m h : Nat} {rs : List Nat} {T : List (List Nat)} {st s : Store} (f : Fr i st s) (hq : st.length ≤ q) (hi : i < st.length) (hR : RowsAt i q rs T s) (hm : 1 ≤ m ∧ m ≤ 4) (hT : MOk h m T) :
    Tr (m__law_pick (.ref i) (.int m) >>= fun x => dIndex (.ref q) x >>= fun x790 => m__law_pick (.ref i) (.int m) >>= fun x791 => setC x790 x791 (.str [63]) >>= fun _ => (pure (.next ()) : M (Fl Unit Unit))) s
      fun fl s' => fl = .next () ∧ Fr i st s' ∧ ∃ T', RowsAt i q rs T' s' ∧ MOk (h + 1) m T' := by
  refine tr_then (pick_tr f.src (by omega) (by omega)) fun d s1 ⟨f1, a, e, a0, a1⟩ => ?_
  subst e
  have R1 := hR.fr f1 (by omega)
  have hl := hR.ln
  have hTl := hT.len
  obtain ⟨k, rfl⟩ := Int.eq_ofNat_of_zero_le a0
  have hk : k < rs.length := by omega
  have hr : rs[k]? = some rs[k] := List.getElem?_eq_getElem hk
  have hrow : T[k]? = some (T[k]'(by omega)) := List.getElem?_eq_getElem (by omega)
  refine tr_run (rd_ix R1.cell (at_nat (k := k) (d := D.ref rs[k]) (by rw [List.getElem?_map, hr]; rfl))) ?_
  refine tr_then (pick_tr f1.src (by omega) (by omega)) fun d s2 ⟨f2, b, e, b0, b1⟩ => ?_
  subst e
  have R2 := R1.fr f2 (by omega)
  obtain ⟨p, rfl⟩ := Int.eq_ofNat_of_zero_le b0
  obtain ⟨c1, c2, c3⟩ := R2.row k _ _ hr hrow
  have hlen := hT.row _ (List.mem_of_getElem? hrow)
  refine tr_run (rd_set c1 (ixN_nat (by rw [rowD_len]; omega))) ?_
  rw [rowD_set]
  have lt2 := (List.getElem?_eq_some_iff.mp c1).1
  have hqr : rs[k] ≠ q := by omega
  refine tr_pure ⟨rfl, Fr.wr ((f.trans f1).trans f2) (by omega) hi _, T.set k ((T[k]'(by omega)).set p 63), ⟨hR.nd, ?_, ?_, ?_⟩, ⟨?_, ?_, ?_, ?_⟩⟩
  · rw [List.getElem?_set_ne hqr]
    exact R2.cell
  · rw [List.length_set]
    exact hl
  · intro t r row h1 h2
    by_cases ht : t = k
    · subst ht
      rw [hr] at h1
      cases h1
      rw [List.getElem?_set_self (by omega)] at h2
      cases h2
      exact ⟨List.getElem?_set_self lt2, c2, c3⟩
    · rw [List.getElem?_set_ne (Ne.symm ht)] at h2
      obtain ⟨x1, x2, x3⟩ := R2.row t r row h1 h2
      refine ⟨?_, x2, x3⟩
      rw [List.getElem?_set_ne fun e => ht ((List.getElem?_inj (List.getElem?_eq_some_iff.mp h1).1 hR.nd).mp (by rw [h1, hr, e]))]
      exact x1
  · rw [List.length_set]
    exact hTl
  · intro r hr'
    rcases List.mem_or_eq_of_mem_set hr' with q | q
    · exact hT.row r q
    · rw [q, List.length_set]; exact hlen
  · intro r hr' c hc
    rcases List.mem_or_eq_of_mem_set hr' with q | q
    · exact hT.sgn r q c hc
    · subst q
      rcases List.mem_or_eq_of_mem_set hc with q | q
      · exact hT.sgn _ (List.mem_of_getElem? hrow) c q
      · exact .inr (.inr (.inr q))
  · exact Nat.le_trans (cnt_set T k _ _ hrow (cnt_row _ _)) (Nat.add_le_add_right hT.few 1)
theorem mk_t2 (a b : D) : mkTup [a, b] = pure (.tup [a, b]) := if_pos (show (2 : Nat) ≤ 16777216 by decide)
theorem strs_rowD : ∀ row : List Nat, strsOf (rowD row) = some (row.map fun c => [c])
  | [] => rfl
  | c :: row => by
    show (strsOf (rowD row)).map ([c] :: ·) = _
    rw [strs_rowD row]
    rfl
theorem join_ones : ∀ row : List Nat, joinL [] (row.map fun c => [c]) = row
  | [] => rfl
  | [c] => rfl
  | c :: d :: row => by
    show [c] ++ ([] ++ joinL [] ((d :: row).map fun c => [c])) = _
    rw [join_ones (d :: row)]
    rfl
theorem sum_ones : ∀ row : List Nat, ((row.map fun c => [c]).map (·.length)).sum = row.length
  | [] => rfl
  | c :: row => by
    have := sum_ones row
    rw [List.map_cons, List.map_cons, List.sum_cons, this]
    simp only [List.length_cons, List.length_nil]
    omega
theorem rd_join {s : Store} {r : Nat} {row : List Nat} (h : s[r]? = some (.lst (rowD row))) (hl : row.length < 100) : dJoin (.str []) (.ref r) s = .ok (.str row) s := by
  show (rdC r >>= fun xs => ofO (strsOf xs) >>= fun ys => if joinOk [] ys = true then pure (D.str (joinL [] ys)) else M.stuck) s = _
  rw [bind_ok (rdC_ok h), strs_rowD, ofO_some, M.pure_bind, join_ones, if_pos]
  · rfl
  · unfold joinOk
    rw [sum_ones, List.length_nil, Nat.mul_zero, decide_eq_true_eq]
    omega
theorem join_rows : ∀ {rs : List Nat} {T : List (List Nat)} {s : Store}, rs.length = T.length → (∀ (t r : Nat) (row : List Nat), rs[t]? = some r → T[t]? = some row → s[r]? = some (.lst (rowD row)) ∧ row.length < 100) → compM dec1 (fun _ => pure true) (fun p => isS (.str []) >>= fun _ => dJoin (.str []) p) (rs.map D.ref) s = .ok (T.map D.str) s
  | [], [], s, _, _ => rfl
  | r :: rs, row :: T, s, hl, h => by
    have ih := join_rows (rs := rs) (T := T) (s := s) (by rw [List.length_cons, List.length_cons] at hl; omega) fun t a b h1 h2 => h (t + 1) a b h1 h2
    obtain ⟨h1, h2⟩ := h 0 r row rfl rfl
    rw [List.map_cons]
    unfold compM
    show (nox (pure true) >>= fun b => if b = true then nox (isS (.str []) >>= fun _ => dJoin (.str []) (.ref r)) >>= fun y => compM dec1 (fun _ => pure true) (fun p => isS (.str []) >>= fun _ => dJoin (.str []) p) (rs.map D.ref) >>= fun r => pure (y :: r) else compM dec1 (fun _ => pure true) (fun p => isS (.str []) >>= fun _ => dJoin (.str []) p) (rs.map D.ref)) s = _
    rw [nox_pure, M.pure_bind, if_pos rfl]
    have e : nox (isS (.str []) >>= fun _ => dJoin (.str []) (.ref r)) s = .ok (.str row) s := by
      have e0 : (isS (.str []) >>= fun _ => dJoin (.str []) (.ref r)) s = .ok (.str row) s := rd_join h1 h2
      unfold nox
      rw [e0]
    rw [bind_ok e, bind_ok ih]
    rfl
theorem cnt0 : ∀ {T : List (List Nat)}, (∀ row ∈ T, ∀ c ∈ row, Sg c) → (T.map (·.count 63)).sum = 0
  | [], _ => rfl
  | row :: T, h => by
    rw [List.map_cons, List.sum_cons, cnt0 fun r hr => h r (List.mem_cons_of_mem _ hr), List.count_eq_zero.mpr fun hm => by
      have := h row List.mem_cons_self 63 hm
      unfold Sg at this
      omega]
def thins : List D := [.str [45, 43, 48], .str [45, 43, 48], .str [45, 45, 43, 48, 48], .str [45, 43, 43, 48], .str [45, 43]]
theorem thin_in : ∀ d ∈ thins, ∃ cs : List Nat, d = .str cs ∧ cs ≠ [] ∧ cs.length < 100 ∧ ∀ c ∈ cs, Sg c := by
  have key : ∀ cs : List Nat, cs ∈ [[45, 43, 48], [45, 43, 48], [45, 45, 43, 48, 48], [45, 43, 43, 48], [45, 43]] → cs ≠ [] ∧ cs.length < 100 ∧ ∀ c ∈ cs, (c = 43 ∨ c = 45 ∨ c = 48) := by decide
  intro d hd
  obtain ⟨cs, h1, h2⟩ : ∃ cs ∈ [[45, 43, 48], [45, 43, 48], [45, 45, 43, 48, 48], [45, 43, 43, 48], [45, 43]], D.str cs = d := List.mem_map.mp (show d ∈ [[45, 43, 48], [45, 43, 48], [45, 45, 43, 48, 48], [45, 43, 43, 48], [45, 43]].map D.str from hd)
  exact ⟨cs, h2.symm, key cs h1⟩
theorem thin_tr {i : Nat} {st : Store} (h : Gs i st) : Tr (m__law_chosen (.ref i) (.lst thins)) st fun d s => Fr i st s ∧ ∃ cs : List Nat, d = .str cs ∧ cs ≠ [] ∧ cs.length < 100 ∧ ∀ c ∈ cs, Sg c :=
  tr_mono (chosen_tr h (List.cons_ne_nil _ _) (by decide)) fun d s hh => ⟨hh.1, thin_in d hh.2⟩
theorem drawn_rest {hd i m : Nat} {st s3 : Store} {cs : List Nat} (hhd : hd ≤ 4) (h : Gs i st) (f03 : Fr i st s3) (hm1 : 1 ≤ m) (hm4 : m ≤ 4) (hc0 : cs ≠ []) (hc1 : cs.length < 100) (hc : ∀ c ∈ cs, Sg c) :
    Tr (newC [] >>= fun x_1 => mkTup [.str cs, x_1] >>= fun x => ofO (dec2 x) >>= fun x => rng1 (.int m) >>= fun x_2 =>
      loopM dec1 (fun _ p732 => rng1 (.int m) >>= fun y => compM dec1 (fun _ => pure true) (fun _ => dLen x.fst >>= fun z => m__law_pick (.ref i) z >>= fun x769 => dIndex x.fst x769) y >>= fun y => newC y >>= fun v => dIndex v p732 >>= fun y => fLst [.str [45], .str [45], .str [45], .str [48], y] >>= fun y => m__law_chosen (.ref i) y >>= fun x760 => setC v p732 x760 >>= fun _ => isC x.snd >>= fun _ => appC x.snd v >>= fun _ => (pure (.next ()) : M (Fl Unit Unit))) x_2 () >>= fun x_3 =>
      (thenL x_3 fun _ => dAdd (.int (hd : Nat)) (.int 1) >>= fun y => m__law_pick (.ref i) y >>= fun y => rng1 y >>= fun ds => loopM dec1 (fun _ _ => m__law_pick (.ref i) (.int m) >>= fun y => dIndex x.snd y >>= fun x790 => m__law_pick (.ref i) (.int m) >>= fun x791 => setC x790 x791 (.str [63]) >>= fun _ => (pure (.next ()) : M (Fl Unit Unit))) ds () >>= fun f778 =>
        thenL f778 fun _ => frz x.snd >>= fun y => asW y >>= fun y => compM dec1 (fun _ => pure true) (fun p => isS (.str []) >>= fun _ => dJoin (.str []) p) y >>= fun y => fLst y >>= fun y => dTuple y >>= fun y => (pure (Fl.ret y) : M (Fl Empty Empty))) >>= retM) s3
    fun d s => Fr i st s ∧ ∃ T, d = .tup (T.map D.str) ∧ MOk hd m T := by
  refine tr_run (n_cel (xs := []) (by decide)) ?_
  have f04 : Fr i st (s3 ++ [.lst []]) := f03.trans (Fr.push f03.src _)
  rw [mk_t2, M.pure_bind]
  show Tr (ofO (some (D.str cs, D.ref s3.length)) >>= _) _ _
  rw [ofO_some, M.pure_bind, rng_1 ⟨by omega, by omega⟩, M.pure_bind]
  dsimp only
  have hi := h.lt
  have hq : st.length ≤ s3.length := f03.len
  refine tr_then (loop_ix (k := 0) (I := fun k _ s => Fr i st s ∧ ∃ rs T, RowsAt i s3.length rs T s ∧ T.length = k ∧ ∀ row ∈ T, row.length = m ∧ ∀ c ∈ row, Sg c) (fun j d hj => ⟨d, rfl, fun _ s ⟨f, rs, T, R, hl, hg⟩ => ?_⟩) ⟨f04, [], [], ⟨List.nodup_nil, List.getElem?_concat_length, rfl, fun _ _ _ h => nomatch h⟩, rfl, fun _ h => nomatch h⟩) fun fl s5 ⟨_, e, f5, rs, T, R, hl, hg⟩ => ?_
  · obtain ⟨p, hp, rfl⟩ := up_mem (List.mem_of_getElem? hj)
    have hj' := (List.getElem?_eq_some_iff.mp hj).1
    rw [upFrom_len] at hj'
    rw [Int.zero_add]
    have rt := row_turn f hq hi R hc0 hc1 hc hm4 (show p < m by omega) (by have := R.ln; omega)
    rw [rng_1 ⟨by omega, by omega⟩] at rt
    refine tr_mono rt fun fl s' ⟨e, f', r, row, R', h1, h2⟩ => ⟨(), e, f', _, _, R', by rw [List.length_append, hl]; rfl, fun x hx => ?_⟩
    rcases List.mem_append.mp hx with q | q
    · exact hg x q
    · rw [List.mem_singleton.mp q]; exact ⟨h1, h2⟩
  subst e
  rw [upFrom_len] at hl
  rw [tl_next]
  simp (config := {implicitDefEqProofs := false}) only [M.bind_assoc, ii_add, M.pure_bind]
  refine tr_then (pick_tr f5.src (by omega) (by omega)) fun d s6 ⟨f6, n, e, n0, n1⟩ => ?_
  subst e
  rw [rng_1 ⟨by omega, by omega⟩, M.pure_bind]
  have M0 : MOk 0 m T := ⟨by omega, fun r hr => (hg r hr).1, fun r hr c hc => by
    have := (hg r hr).2 c hc
    unfold Sg at this
    omega, by rw [cnt0 fun r hr => (hg r hr).2]; omega⟩
  refine tr_then (loop_ix (k := 0) (I := fun k _ s => Fr i st s ∧ ∃ T, RowsAt i s3.length rs T s ∧ MOk k m T) (fun j d hj => ⟨d, rfl, fun _ s ⟨f, T, R, hT⟩ => ?_⟩) ⟨f5.trans f6, T, R.fr f6 (by omega), M0⟩) fun fl s7 ⟨_, e, f7, T, R, hT⟩ => ?_
  · exact tr_mono (hide_turn f hq hi R ⟨hm1, hm4⟩ hT) fun fl s' ⟨e, f', h2⟩ => ⟨(), e, f', h2⟩
  subst e
  rw [tl_next]
  simp (config := {implicitDefEqProofs := false}) only [M.bind_assoc]
  refine tr_run (rd_frz R.cell) ?_
  rw [w_lst, M.pure_bind]
  refine tr_run (join_rows (T := T) R.ln fun t r row h1 h2 => ?_) ?_
  · obtain ⟨x1, x2, x3⟩ := R.row t r row h1 h2
    have := hT.row row (List.mem_of_getElem? h2)
    exact ⟨by rw [List.getElem?_set_ne (by omega)]; exact x1, by omega⟩
  have hTl := hT.len
  rw [f_lst (by rw [List.length_map]; omega), M.pure_bind, tup_lst, M.pure_bind, M.pure_bind, r_ret]
  rw [upFrom_len] at hT
  refine tr_pure ⟨Fr.wr f7 hq hi _, T, rfl, hT.len, hT.row, hT.sgn, Nat.le_trans hT.few (by omega)⟩
theorem drawn_trm {hd i : Nat} {mo : Int} {st : Store} (hm3 : 3 ≤ mo) (hm4 : mo ≤ 4) (hhd : hd ≤ 4) (h : Gs i st) : Tr (m__law_drawn_model (.ref i) (.int mo) (.int (hd : Nat))) st fun d s => Fr i st s ∧ ∃ (m : Nat) (T : List (List Nat)), d = .tup (T.map D.str) ∧ 1 ≤ m ∧ (m : Int) ≤ mo ∧ MOk hd m T := by
  unfold m__law_drawn_model mB__law_drawn_model
  simp (config := {implicitDefEqProofs := false}) only [M.pure_bind, M.bind_assoc, m2]
  refine tr_then (pick_tr h (by omega) (by omega)) fun d s1 ⟨f1, a, e, a0, a1⟩ => ?_
  subst e
  rw [ii_add, M.pure_bind]
  simp (config := {implicitDefEqProofs := false}) only [bAnd, ii_gt, M.pure_bind, M.bind_assoc, b_as]
  rw [if_pos (decide_eq_true (by omega))]
  simp (config := {implicitDefEqProofs := false}) only [M.bind_assoc, M.pure_bind]
  refine tr_then (pick_tr f1.src (by decide) (by decide)) fun d s2 ⟨f2, b, e, b0, b1⟩ => ?_
  subst e
  have first : ∃ m : Nat, 1 ≤ m ∧ (m : Int) ≤ mo ∧ (if decide (0 < b) = true then dMax2 (.int (1 + a)) (.int 3) >>= fun v => pure (.next v) else pure (.next (.int (1 + a))) : M (Fl D Empty)) = pure (.next (.int m)) := by
    by_cases hb : 0 < b
    · rw [if_pos (decide_eq_true hb)]
      by_cases h3 : (3 : Int) > 1 + a
      · refine ⟨3, by omega, by omega, ?_⟩
        have e : dMax2 (.int (1 + a)) (.int 3) = pure (.int (if (3 : Int) > 1 + a then 3 else 1 + a)) := rfl
        rw [e, if_pos h3]
        rfl
      · refine ⟨(1 + a).toNat, by omega, by omega, ?_⟩
        have e : dMax2 (.int (1 + a)) (.int 3) = pure (.int (if (3 : Int) > 1 + a then 3 else 1 + a)) := rfl
        rw [e, if_neg h3, M.pure_bind, Int.toNat_of_nonneg (by omega)]
    · rw [if_neg (by rw [decide_eq_true_eq]; exact hb)]
      exact ⟨(1 + a).toNat, by omega, by omega, by rw [Int.toNat_of_nonneg (by omega)]⟩
  obtain ⟨m, hm1, hmo, e⟩ := first
  rw [ii_gt, M.pure_bind, b_as, M.pure_bind, e, M.pure_bind, th_next]
  simp (config := {implicitDefEqProofs := false}) only [M.bind_assoc]
  rw [f_lst (by decide), M.pure_bind]
  refine tr_then (thin_tr f2.src) fun d s3 hh => ?_
  exact Exists.elim hh.2 fun cs hh2 => by
    rw [hh2.1]
    exact tr_mono (drawn_rest hhd h ((f1.trans f2).trans hh.1) hm1 (by omega) hh2.2.1 hh2.2.2.1 hh2.2.2.2) fun d s ⟨f, T, e, hM⟩ => ⟨f, m, T, e, hm1, hmo, hM⟩
theorem drawn_trh {hd i : Nat} {st : Store} (hhd : hd ≤ 4) (h : Gs i st) : Tr (m__law_drawn_model (.ref i) (.int 4) (.int (hd : Nat))) st fun d s => Fr i st s ∧ ∃ m T, d = .tup (T.map D.str) ∧ 1 ≤ m ∧ m ≤ 4 ∧ MOk hd m T :=
  tr_mono (drawn_trm (by decide) (by decide) hhd h) fun _ _ ⟨f, m, T, e, a, b, c⟩ => ⟨f, m, T, e, a, by omega, c⟩
theorem drawn_tr {i : Nat} {st : Store} (h : Gs i st) : Tr (m__law_drawn_model (.ref i) (.int 4) (.int 4)) st fun d s => Fr i st s ∧ ∃ m T, d = .tup (T.map D.str) ∧ 1 ≤ m ∧ m ≤ 4 ∧ MOk 4 m T := drawn_trh (hd := 4) (Nat.le_refl _) h
mutual
theorem eqd_refl : ∀ (n : Nat) (d : D), okD n d = true → eqd d d = true
  | _, .non, _ => by unfold eqd; rfl
  | _, .bl a, _ => by unfold eqd; exact beq_self_eq_true a
  | _, .int a, _ => by unfold eqd; exact beq_self_eq_true a
  | _, .str a, _ => by unfold eqd; exact beq_self_eq_true a
  | 0, .lst xs, h => by rw [okD] at h; cases h
  | n + 1, .lst xs, h => by unfold eqd; exact eqds_refl n xs (by rw [okD] at h; exact h)
  | 0, .tup xs, h => by rw [okD] at h; cases h
  | n + 1, .tup xs, h => by unfold eqd; exact eqds_refl n xs (by rw [okD] at h; exact h)
  | _, .scr _, h => by rw [okD] at h; cases h
  | _, .fn _, h => by rw [okD] at h; cases h
  | _, .adr _, h => by rw [okD] at h; cases h
  | _, .ref _, h => by rw [okD] at h; cases h
theorem eqds_refl : ∀ (n : Nat) (ds : List D), okDs n ds = true → eqds ds ds = true
  | _, [], _ => by unfold eqds; rfl
  | n, d :: ds, h => by
    rw [okDs, Bool.and_eq_true] at h
    unfold eqds
    rw [eqd_refl n d h.1, eqds_refl n ds h.2]
    rfl
end
theorem okDs_iff {n : Nat} : ∀ {ds : List D}, okDs n ds = true ↔ ∀ d ∈ ds, okD n d = true
  | [] => by simp [okDs]
  | d :: ds => by
    rw [okDs, Bool.and_eq_true, okDs_iff]
    simp
theorem ok_lst {n : Nat} {xs : List D} : okD (n + 1) (.lst xs) = true ↔ ∀ d ∈ xs, okD n d = true := by rw [okD, okDs_iff]
theorem ok_tup {n : Nat} {xs : List D} : okD (n + 1) (.tup xs) = true ↔ ∀ d ∈ xs, okD n d = true := by rw [okD, okDs_iff]
theorem ok_str {n : Nat} (cs : List Nat) : okD n (.str cs) = true := by rw [okD]
theorem ok_int {n : Nat} (i : Int) : okD n (.int i) = true := by rw [okD]
theorem ok_bl {n : Nat} (i : Bool) : okD n (.bl i) = true := by rw [okD]
theorem ok_non {n : Nat} : okD n .non = true := by rw [okD]
theorem eq_ok {x y : D} (hx : okD 60 x = true) (hy : okD 60 y = true) : dEq x y = pure (.bl (eqd x y)) := if_pos ⟨hx, hy⟩
theorem ne_ok {x y : D} (hx : okD 60 x = true) (hy : okD 60 y = true) : dNe x y = pure (.bl (!eqd x y)) := if_pos ⟨hx, hy⟩
theorem eq_same {d : D} (h : okD 60 d = true) : dEq d d = pure (.bl true) := by rw [eq_ok h h, eqd_refl 60 d h]
theorem ne_same {d : D} (h : okD 60 d = true) : dNe d d = pure (.bl false) := by rw [ne_ok h h, eqd_refl 60 d h]; rfl
theorem ne_ii (i j : Int) : dNe (.int i) (.int j) = pure (.bl (!decide (i = j))) := by
  rw [ne_ok (ok_int _) (ok_int _)]
  unfold eqd
  rfl
theorem ne_nn (a b : Nat) : dNe (.int (a : Nat)) (.int (b : Nat)) = pure (.bl (!decide (a = b))) := by
  rw [ne_ii]
  congr 3
  rw [decide_eq_decide]
  omega
theorem eq_ss (a b : List Nat) : dEq (.str a) (.str b) = pure (.bl (a == b)) := by
  rw [eq_ok (ok_str _) (ok_str _)]
  unfold eqd
  rfl
theorem ne_ss (a b : List Nat) : dNe (.str a) (.str b) = pure (.bl (!(a == b))) := by
  rw [ne_ok (ok_str _) (ok_str _)]
  unfold eqd
  rfl
theorem eqd_nil (xs : List D) : eqd (.lst xs) (.lst []) = xs.isEmpty := by
  unfold eqd
  cases xs with
  | nil => unfold eqds; rfl
  | cons _ _ => unfold eqds; rfl
theorem ne_nil {xs : List D} (h : okDs 59 xs = true) : dNe (.lst xs) (.lst []) = pure (.bl (!xs.isEmpty)) := by
  rw [ne_ok (by rw [okD]; exact h) (by rw [okD, okDs]), eqd_nil]
theorem comp_map {X Pp : Type} {dec : D → Option Pp} {test : Pp → M Bool} {el : Pp → M D} (ed : X → D) (t : X → Bool) (g : X → D) : ∀ {xs : List X}, (∀ x ∈ xs, ∃ p, dec (ed x) = some p ∧ test p = pure (t x) ∧ (t x = true → el p = pure (g x))) → compM dec test el (xs.map ed) = pure ((xs.filter t).map g)
  | [], _ => rfl
  | x :: xs, h => by
    obtain ⟨p, h1, h2, h3⟩ := h x List.mem_cons_self
    have ih := comp_map ed t g fun y hy => h y (List.mem_cons_of_mem _ hy)
    rw [List.map_cons]
    unfold compM
    rw [h1]
    show (nox (test p) >>= fun b => if b = true then nox (el p) >>= fun y => compM dec test el (xs.map ed) >>= fun r => pure (y :: r) else compM dec test el (xs.map ed)) = _
    rw [h2, nox_pure, M.pure_bind, ih]
    cases ht : t x with
    | true =>
      rw [if_pos rfl, h3 ht, nox_pure, M.pure_bind, M.pure_bind, List.filter_cons_of_pos ht]
      rfl
    | false => rw [if_neg Bool.false_ne_true, List.filter_cons_of_neg (by rw [ht]; exact Bool.false_ne_true)]
theorem comp_all {X Pp : Type} {dec : D → Option Pp} {el : Pp → M D} (ed : X → D) (g : X → D) {xs : List X} (h : ∀ x ∈ xs, ∃ p, dec (ed x) = some p ∧ el p = pure (g x)) : compM dec (fun _ => pure true) el (xs.map ed) = pure (xs.map g) := by
  rw [comp_map ed (fun _ => true) g fun x hx => let ⟨p, a, b⟩ := h x hx; ⟨p, a, rfl, fun _ => b⟩, List.filter_eq_self.mpr fun _ _ => rfl]
theorem loop_map {X A S Pp : Type} {dec : D → Option Pp} {body : S → Pp → M (Fl S S)} (es : A → S) (ed : X → D) (f : A → X → A) (I : Nat → A → Prop) : ∀ (xs : List X) (k : Nat) (a : A), (∀ (j : Nat) (x : X) (a : A), xs[j]? = some x → I (k + j) a → ∃ p, dec (ed x) = some p ∧ body (es a) p = pure (.next (es (f a x))) ∧ I (k + j + 1) (f a x)) → I k a → loopM dec body (xs.map ed) (es a) = pure (.next (es (xs.foldl f a))) ∧ I (k + xs.length) (xs.foldl f a)
  | [], _, _, _, h => ⟨rfl, h⟩
  | x :: xs, k, a, hd, h => by
    obtain ⟨p, h1, h2, h3⟩ := hd 0 x a rfl h
    have ih := loop_map (dec := dec) (body := body) es ed f I xs (k + 1) (f a x) (fun j y b hj hb => by
      have e : k + 1 + j = k + (j + 1) := by omega
      rw [e] at hb ⊢
      exact hd (j + 1) y b hj hb) h3
    rw [List.map_cons, List.foldl_cons, List.length_cons, show k + (xs.length + 1) = k + 1 + xs.length by omega]
    refine ⟨?_, ih.2⟩
    unfold loopM
    rw [h1]
    show (body (es a) p >>= _) = _
    rw [h2, M.pure_bind]
    exact ih.1
/-- .. and what comes behind it -/
theorem loop_then {X A S Pp β : Type} {dec : D → Option Pp} {body : S → Pp → M (Fl S S)} {rest : Fl S Empty → M β} {st : Store} {out : R β} (es : A → S) (ed : X → D) (f : A → X → A) (I : Nat → A → Prop) (xs : List X) (a : A) (h0 : I 0 a)
    (hb : ∀ (j : Nat) (x : X) (a : A), xs[j]? = some x → I j a → ∃ p, dec (ed x) = some p ∧ body (es a) p = pure (.next (es (f a x))) ∧ I (j + 1) (f a x))
    (k : I xs.length (xs.foldl f a) → rest (.next (es (xs.foldl f a))) st = out) : (loopM dec body (xs.map ed) (es a) >>= rest) st = out := by
  have h := loop_map (dec := dec) (body := body) es ed f I xs 0 a (fun j x a hj hi => by rw [Nat.zero_add] at hi ⊢; exact hb j x a hj hi) h0
  rw [h.1, M.pure_bind]
  rw [Nat.zero_add] at h
  exact k h.2
/-- a loop that ends at the first bad one -/
theorem loop_find {X A S Pp : Type} {dec : D → Option Pp} {body : S → Pp → M (Fl S S)} (es : A → S) (ed : X → D) (bad : X → Bool) (r : D) (f : A → X → A) : ∀ (xs : List X) (a : A), (∀ x ∈ xs, ∀ a, ∃ p, dec (ed x) = some p ∧ body (es a) p = if bad x = true then pure (.ret r) else pure (.next (es (f a x)))) → loopM dec body (xs.map ed) (es a) = if xs.any bad = true then pure (.ret r) else pure (.next (es (xs.foldl f a)))
  | [], _, _ => rfl
  | x :: xs, a, hd => by
    obtain ⟨p, h1, h2⟩ := hd x List.mem_cons_self a
    rw [List.map_cons]
    unfold loopM
    rw [h1]
    show (body (es a) p >>= _) = _
    rw [h2, List.any_cons]
    cases hb : bad x with
    | true => rfl
    | false =>
      rw [if_neg Bool.false_ne_true, M.pure_bind, Bool.false_or, List.foldl_cons]
      exact loop_find es ed bad r f xs (f a x) fun y hy => hd y (List.mem_cons_of_mem _ hy)
theorem all_map {X : Type} (p : X → Bool) (xs : List X) : dAll (.lst (xs.map fun x => .bl (p x))) = pure (.bl (xs.all p)) := by
  show (ofO (blsOf (xs.map fun x => D.bl (p x))) >>= fun bs => pure (D.bl (bs.all id))) = _
  rw [show (xs.map fun x => D.bl (p x)) = (xs.map p).map D.bl by rw [List.map_map]; rfl, blsOf_map, ofO_some, M.pure_bind, List.all_map]
  rfl
theorem any_map {X : Type} (p : X → Bool) (xs : List X) : dAny (.lst (xs.map fun x => .bl (p x))) = pure (.bl (xs.any p)) := by
  show (ofO (blsOf (xs.map fun x => D.bl (p x))) >>= fun bs => pure (D.bl (bs.any id))) = _
  rw [show (xs.map fun x => D.bl (p x)) = (xs.map p).map D.bl by rw [List.map_map]; rfl, blsOf_map, ofO_some, M.pure_bind, List.any_map]
  rfl
theorem sum_map {X : Type} (p : X → Int) (xs : List X) : dSum (.lst (xs.map fun x => .int (p x))) = pure (.int (xs.map p).sum) := by
  show (ofO (intsOf (xs.map fun x => D.int (p x))) >>= fun bs => pure (D.int bs.sum)) = _
  rw [show (xs.map fun x => D.int (p x)) = (xs.map p).map D.int by rw [List.map_map]; rfl, intsOf_map, ofO_some, M.pure_bind]
def pl : D → Bool
  | .scr _ => false
  | .fn _ => false
  | .ref _ => false
  | .kt _ => false
  | .adr _ => false
  | _ => true
theorem sz_pl {B n : Nat} {d : D} (h : szD B n d = true) : pl d = true := by
  cases d with
  | scr _ => cases n <;> (unfold szD at h; cases h)
  | fn _ => cases n <;> (unfold szD at h; cases h)
  | ref _ => cases n <;> (unfold szD at h; cases h)
  | adr _ => cases n <;> (unfold szD at h; cases h)
  | kt _ => cases n <;> (unfold szD at h; cases h)
  | _ => rfl
theorem sz_str {B n : Nat} {cs : List Nat} (h : szD B n (.str cs) = true) : cs.length ≤ B := by
  unfold szD at h
  exact of_decide_eq_true h
theorem sz_items {B n : Nat} {xs : List D} (h : szD B n (.tup xs) = true) : xs.length ≤ B ∧ ∃ k, ∀ d ∈ xs, szD B k d = true := by
  cases n with
  | zero => rw [sz_tup0] at h; cases h
  | succ n => exact ⟨(sz_tup.mp h).1, n, (sz_tup.mp h).2⟩
def wi (lo hi : Int) : D → Bool
  | .int i => decide (lo ≤ i) && decide (i ≤ hi)
  | _ => false
theorem chain_le (a b c : Int) : chM dLe dLe (pure (.int a)) (pure (.int b)) (pure (.int c)) = pure (.bl (decide (a ≤ b) && decide (b ≤ c))) := by
  unfold chM
  simp (config := {implicitDefEqProofs := false}) only [M.pure_bind, ii_le, b_as]
  cases decide (a ≤ b) <;> rfl
theorem within_eq {d : D} (h : pl d = true) (lo hi : Int) : m_is_within d (.int lo) (.int hi) = pure (.bl (wi lo hi d)) := by
  unfold m_is_within mB_is_within
  cases d with
  | int i =>
    rw [M.pure_bind, chain_le]
    rfl
  | scr _ => cases h
  | fn _ => cases h
  | ref _ => cases h
  | adr _ => cases h
  | kt _ => cases h
  | _ => rfl
def sgnB (c : Nat) : Bool := c == 43 || c == 45 || c == 48 || c == 63
def rowOk (m : Nat) : D → Bool
  | .str cs => decide (cs.length = m) && cs.all sgnB
  | _ => false
def cntD : D → Nat
  | .str cs => cs.count 63
  | _ => 0
def modelOk : D → Bool
  | .tup xs => (decide (1 ≤ xs.length) && decide (xs.length ≤ 4)) && (xs.all (rowOk xs.length) && decide ((xs.map cntD).sum ≤ 4))
  | _ => false
theorem beq1 (c d : Nat) : (([d] : List Nat) == [c]) = (d == c) := by
  show (d == c && true) = _
  rw [Bool.and_true]
theorem in_tup {x : D} {ys : List D} (hx : okD 60 x = true) (hy : okD 60 (.tup ys) = true) : dIn x (.tup ys) = pure (.bl (ys.any fun y => eqd y x)) := by
  unfold dIn
  split
  · next e => cases e
  · next e => cases e; exact if_pos ⟨hx, hy⟩
  · next e => cases e
  · next h1 h2 h3 => exact absurd rfl (h2 ys)
theorem in_lst {x : D} {ys : List D} (hx : okD 60 x = true) (hy : okD 60 (.lst ys) = true) : dIn x (.lst ys) = pure (.bl (ys.any fun y => eqd y x)) := by
  unfold dIn
  split
  · next e => cases e; exact if_pos ⟨hx, hy⟩
  · next e => cases e
  · next e => cases e
  · next h1 h2 h3 => exact absurd rfl (h1 ys)
theorem notin_lst {x : D} {ys : List D} (hx : okD 60 x = true) (hy : okD 60 (.lst ys) = true) : dNotIn x (.lst ys) = pure (.bl (!ys.any fun y => eqd y x)) := by
  unfold dNotIn
  split
  · next e => cases e; exact if_pos ⟨hx, hy⟩
  · next e => cases e
  · next e => cases e
  · next h1 h2 h3 => exact absurd rfl (h1 ys)
theorem notin_tup {x : D} {ys : List D} (hx : okD 60 x = true) (hy : okD 60 (.tup ys) = true) : dNotIn x (.tup ys) = pure (.bl (!ys.any fun y => eqd y x)) := by
  unfold dNotIn
  split
  · next e => cases e
  · next e => cases e; exact if_pos ⟨hx, hy⟩
  · next e => cases e
  · next h1 h2 h3 => exact absurd rfl (h2 ys)
theorem in_known (c : Nat) : dIn (.str [c]) k_KNOWN_SIGNS = pure (.bl (c == 43 || c == 45 || c == 48)) := by
  have e : dIn (.str [c]) k_KNOWN_SIGNS = pure (.bl ([D.str [43], .str [45], .str [48]].any fun y => eqd y (.str [c]))) := in_tup (ok_str _) (ok_tup.mpr fun d hd => by
    simp only [List.mem_cons, List.not_mem_nil, or_false] at hd
    rcases hd with rfl | rfl | rfl <;> exact ok_str _)
  rw [e]
  simp only [List.any_cons, List.any_nil, eqd, Bool.or_false, beq1]
  rw [Bool.beq_comm (a := 43), Bool.beq_comm (a := 45), Bool.beq_comm (a := 48), Bool.or_assoc]
theorem isi_s (cs : List Nat) : mIsi .str (.str cs) = pure (.bl true) := rfl
theorem row_eq {d : D} (h : pl d = true) (hs : ∀ cs, d = .str cs → cs.length ≤ 16777216) (m : Nat) : m_is_row d (.int m) = pure (.bl (rowOk m d)) := by
  cases d with
  | str cs =>
    have hl := hs cs rfl
    unfold m_is_row mB_is_row
    simp (config := {implicitDefEqProofs := false}) only [M.pure_bind, M.bind_assoc, bOr, isi_s, b_as, Bool.not_true, ifF, s_len, ne_nn, w_str]
    unfold rowOk
    by_cases hm : cs.length = m
    · simp (config := {implicitDefEqProofs := false}) only [decide_eq_true hm, Bool.not_true, ifF]
      rw [comp_all (dec := dec1) (fun c => D.str [c]) (fun c => D.bl (sgnB c)) fun c _ => ⟨_, rfl, ?_⟩]
      · rw [M.pure_bind, f_lst (by rw [List.length_map]; exact hl), M.pure_bind, all_map, M.pure_bind, M.pure_bind, r_ret]
        rfl
      · unfold vOr
        simp (config := {implicitDefEqProofs := false}) only [M.pure_bind, M.bind_assoc, in_known, b_as, eq_ss, beq1]
        unfold sgnB
        cases (c == 43 || c == 45 || c == 48) <;> rfl
    · simp (config := {implicitDefEqProofs := false}) only [decide_eq_false hm, Bool.not_false, ↓reduceIte, M.pure_bind, th_ret, r_ret, Bool.false_and]
  | scr _ => cases h
  | fn _ => cases h
  | ref _ => cases h
  | adr _ => cases h
  | kt _ => cases h
  | _ => rfl
theorem isi_t (xs : List D) : mIsi .tuple (.tup xs) = pure (.bl true) := rfl
theorem cnt_is (c : Nat) : ∀ cs : List Nat, countIn (.str ⟨#[c]⟩) (cs.map fun n => PyData.str ⟨#[n]⟩) = cs.count c
  | [] => rfl
  | d :: cs => by
    have ih := cnt_is c cs
    rw [List.map_cons]
    unfold countIn
    rw [ih, List.count_cons]
    have e : same (PyData.str ⟨#[d]⟩) (.str ⟨#[c]⟩) = (d == c) := by
      have e2 := mkS_beq [d] [c]
      show ((⟨#[d]⟩ : PySem.Str) == ⟨#[c]⟩) = _
      rw [beq1] at e2
      exact e2
    rw [e]
    cases d == c <;> simp <;> omega
theorem count_q (cs : List Nat) : dCount (.str cs) (.str [63]) = pure (.int (cs.count 63 : Nat)) := by
  show pure (D.int (Txt.count (mkS cs) ⟨#[63]⟩)) = _
  rw [count_is, cnt_is]
theorem isS_s (cs : List Nat) : isS (.str cs) = pure () := rfl
theorem row_str {m : Nat} {d : D} (h : rowOk m d = true) : ∃ cs, d = .str cs ∧ cs.length = m ∧ ∀ c ∈ cs, sgnB c = true := by
  cases d with
  | str cs =>
    unfold rowOk at h
    rw [Bool.and_eq_true, decide_eq_true_eq, List.all_eq_true] at h
    exact ⟨cs, rfl, h.1, h.2⟩
  | _ => cases h
theorem len1 {a : Nat} : decide ((1 : Int) ≤ (a : Int)) = decide (1 ≤ a) := by
  by_cases h : 1 ≤ a
  · rw [decide_eq_true h, decide_eq_true]; omega
  · rw [decide_eq_false h, decide_eq_false]; omega
theorem len4 {a : Nat} : decide ((a : Int) ≤ 4) = decide (a ≤ 4) := by
  by_cases h : a ≤ 4
  · rw [decide_eq_true h, decide_eq_true]; omega
  · rw [decide_eq_false h, decide_eq_false]; omega
theorem isum_cast : ∀ xs : List D, (xs.map fun d => ((cntD d : Nat) : Int)).sum = ((xs.map cntD).sum : Nat)
  | [] => rfl
  | d :: xs => by
    rw [List.map_cons, List.sum_cons, isum_cast xs, List.map_cons, List.sum_cons]
    omega
theorem model_eq {d : D} (h : pl d = true) (hs : ∀ xs, d = .tup xs → ∀ x ∈ xs, pl x = true ∧ ∀ cs, x = .str cs → cs.length ≤ 16777216) : m_is_right_model d = pure (.bl (modelOk d)) := by
  cases d with
  | tup xs =>
    have hx := hs xs rfl
    unfold m_is_right_model mB_is_right_model
    simp (config := {implicitDefEqProofs := false}) only [M.pure_bind, M.bind_assoc, bOr, isi_t, b_as, Bool.not_true, ifF, t_len]
    rw [chain_le]
    simp (config := {implicitDefEqProofs := false}) only [M.pure_bind, b_as, len1, len4]
    rw [show modelOk (.tup xs) = ((decide (1 ≤ xs.length) && decide (xs.length ≤ 4)) && (xs.all (rowOk xs.length) && decide ((xs.map cntD).sum ≤ 4))) from rfl]
    by_cases hl : 1 ≤ xs.length ∧ xs.length ≤ 4
    · rw [show (decide (1 ≤ xs.length) && decide (xs.length ≤ 4)) = true by rw [Bool.and_eq_true, decide_eq_true_eq, decide_eq_true_eq]; exact hl]
      simp (config := {implicitDefEqProofs := false}) only [Bool.not_true, ifF, w_tup, M.pure_bind, Bool.true_and]
      have c1 : compM dec1 (fun _ => pure true) (fun p20 => mk2 m_is_row [p20, D.int xs.length]) xs = pure (xs.map fun x => D.bl (rowOk xs.length x)) := by
        have := comp_all (dec := dec1) (el := fun p20 => mk2 m_is_row [p20, D.int xs.length]) id (fun x => D.bl (rowOk xs.length x)) (xs := xs) fun x hm => ⟨x, rfl, by rw [m2]; exact row_eq (hx x hm).1 (hx x hm).2 _⟩
        rw [List.map_id] at this
        exact this
      rw [c1, M.pure_bind, f_lst (by rw [List.length_map]; omega), M.pure_bind, all_map, M.pure_bind, b_as, M.pure_bind]
      cases hr : xs.all (rowOk xs.length) with
      | false =>
        simp (config := {implicitDefEqProofs := false}) only [Bool.not_false, ↓reduceIte, M.pure_bind, th_ret, r_ret, Bool.false_and, Bool.and_false]
      | true =>
        simp (config := {implicitDefEqProofs := false}) only [Bool.not_true, ifF, M.pure_bind, Bool.true_and]
        rw [List.all_eq_true] at hr
        have c2 : compM dec1 (fun _ => pure true) (fun p29 => isS p29 >>= fun _ => dCount p29 (D.str [63])) xs = pure (xs.map fun x => D.int (cntD x : Nat)) := by
          have := comp_all (dec := dec1) (el := fun p29 => isS p29 >>= fun _ => dCount p29 (D.str [63])) id (fun x => D.int (cntD x : Nat)) (xs := xs) fun x hm => by
            obtain ⟨cs, rfl, _, _⟩ := row_str (hr x hm)
            exact ⟨_, rfl, by rw [id, isS_s, M.pure_bind, count_q]; rfl⟩
          rw [List.map_id] at this
          exact this
        rw [c2, M.pure_bind, f_lst (by rw [List.length_map]; omega), M.pure_bind, sum_map, M.pure_bind, ii_le, M.pure_bind, M.pure_bind, r_ret, isum_cast, len4]
    · rw [show (decide (1 ≤ xs.length) && decide (xs.length ≤ 4)) = false by rw [Bool.and_eq_false_iff, decide_eq_false_iff_not, decide_eq_false_iff_not]; omega]
      simp (config := {implicitDefEqProofs := false}) only [Bool.not_false, ↓reduceIte, M.pure_bind, th_ret, r_ret, Bool.false_and, Bool.and_false]
  | scr _ => cases h
  | fn _ => cases h
  | ref _ => cases h
  | adr _ => cases h
  | kt _ => cases h
  | _ => rfl
theorem not_in (c : Nat) : dNotIn (.str [c]) (.lst [.str [43], .str [45], .str [48], .str [63]]) = pure (.bl (!sgnB c)) := by
  have e : dNotIn (.str [c]) (.lst [.str [43], .str [45], .str [48], .str [63]]) = pure (.bl (!([D.str [43], .str [45], .str [48], .str [63]].any fun y => eqd y (.str [c])))) := notin_lst (ok_str _) (ok_lst.mpr fun d hd => by
    simp only [List.mem_cons, List.not_mem_nil, or_false] at hd
    rcases hd with rfl | rfl | rfl | rfl <;> exact ok_str _)
  rw [e]
  simp only [List.any_cons, List.any_nil, eqd, Bool.or_false, beq1]
  unfold sgnB
  rw [Bool.beq_comm (a := 43), Bool.beq_comm (a := 45), Bool.beq_comm (a := 48), Bool.beq_comm (a := 63), Bool.or_assoc, Bool.or_assoc]
theorem f_l4 (a b c d : D) : fLst [a, b, c, d] = pure (.lst [a, b, c, d]) := if_pos (show (4 : Nat) ≤ 16777216 by decide)
theorem filter_bad (p : Nat → Bool) : ∀ cs : List Nat, ((cs.filter fun c => !p c).map fun _ => D.int 1).isEmpty = cs.all p
  | [] => rfl
  | c :: cs => by
    cases h : p c with
    | true => rw [List.filter_cons_of_neg (by rw [h]; exact Bool.false_ne_true), filter_bad p cs, List.all_cons, h, Bool.true_and]
    | false => rw [List.filter_cons_of_pos (by rw [h]; rfl), List.all_cons, h]; rfl
theorem ones_ok (p : Nat → Bool) (cs : List Nat) : okDs 59 ((cs.filter p).map fun _ => D.int 1) = true := okDs_iff.mpr fun d hd => by
  obtain ⟨_, _, rfl⟩ := List.mem_map.mp hd
  exact ok_int _
theorem any_not {X : Type} (p : X → Bool) : ∀ xs : List X, (xs.any fun x => !p x) = !xs.all p
  | [] => rfl
  | x :: xs => by rw [List.any_cons, List.all_cons, any_not p xs, Bool.not_and]
theorem fold_sum (f : D → Int) : ∀ (xs : List D) (a : Int), xs.foldl (fun a x => a + f x) a = a + (xs.map f).sum
  | [], a => by simp
  | x :: xs, a => by rw [List.foldl_cons, fold_sum f xs, List.map_cons, List.sum_cons]; omega
abbrev Mo := List (List Nat)
def mD (T : Mo) : D := .tup (T.map D.str)
def plD (p : Nat × Nat) : D := .tup [.int (p.1 : Nat), .int (p.2 : Nat)]
/-- the hidden places of a row's rest, from (i, j) on -/
def hidR (i : Nat) : Nat → List Nat → List (Nat × Nat)
  | _, [] => []
  | j, c :: r => if c = 63 then (i, j) :: hidR i (j + 1) r else hidR i (j + 1) r
def hidT : Nat → Mo → List (Nat × Nat)
  | _, [] => []
  | i, row :: T => hidR i 0 row ++ hidT (i + 1) T
theorem hidR_len (i : Nat) : ∀ (r : List Nat) (j : Nat), (hidR i j r).length = r.count 63
  | [], _ => rfl
  | c :: r, j => by
    unfold hidR
    rw [List.count_cons]
    by_cases h : c = 63
    · rw [if_pos h, List.length_cons, hidR_len i r]
      subst h
      rfl
    · rw [if_neg h, hidR_len i r, beq_eq_false_iff_ne.mpr h]
      rfl
theorem hidT_len : ∀ (T : Mo) (i : Nat), (hidT i T).length = (T.map (·.count 63)).sum
  | [], _ => rfl
  | row :: T, i => by
    unfold hidT
    rw [List.length_append, hidR_len, hidT_len T, List.map_cons, List.sum_cons]
theorem enD_map {X : Type} (e : X → D) : ∀ (xs : List X) (i : Nat), enD i (xs.map e) = (xs.zipIdx i).map fun p => .tup [.int (p.2 : Nat), e p.1]
  | [], _ => rfl
  | x :: xs, i => by
    rw [List.map_cons, List.zipIdx_cons, List.map_cons]
    show D.tup [.int (i : Nat), e x] :: enD (i + 1) (xs.map e) = _
    rw [enD_map e xs (i + 1)]
theorem dec2_tup (a b : D) : dec2 (.tup [a, b]) = some (a, b) := rfl
theorem hidR_zip (i : Nat) : ∀ (r : List Nat) (j : Nat), ((r.zipIdx j).filter fun p => p.1 == 63).map (fun p => plD (i, p.2)) = (hidR i j r).map plD
  | [], _ => rfl
  | c :: r, j => by
    rw [List.zipIdx_cons]
    unfold hidR
    by_cases h : c = 63
    · rw [if_pos h, List.filter_cons_of_pos (by rw [h]; rfl), List.map_cons, List.map_cons, hidR_zip i r]
    · rw [if_neg h, List.filter_cons_of_neg (by rw [beq_iff_eq]; exact h), hidR_zip i r]
theorem en_lst (xs : List D) : enW (.lst xs) = pure (enD 0 xs) := rfl
theorem en_tup (xs : List D) : enW (.tup xs) = pure (enD 0 xs) := rfl
theorem en_str (cs : List Nat) : enW (.str cs) = pure (enD 0 (cs.map fun c => .str [c])) := rfl
/-- the foldl of appended lists -/
theorem fold_app {X Y : Type} (f : X → List Y) : ∀ (xs : List X) (a : List Y), xs.foldl (fun a x => a ++ f x) a = a ++ xs.flatMap f
  | [], a => by simp
  | x :: xs, a => by rw [List.foldl_cons, fold_app f xs, List.flatMap_cons, List.append_assoc]
theorem hidT_zip : ∀ (T : Mo) (i : Nat), (T.zipIdx i).flatMap (fun p => (hidR p.2 0 p.1).map plD) = (hidT i T).map plD
  | [], _ => rfl
  | row :: T, i => by
    rw [List.zipIdx_cons, List.flatMap_cons, hidT_zip T]
    show _ = (hidR i 0 row ++ hidT (i + 1) T).map plD
    rw [List.map_append]
/-- what the loops over rows gather -/
theorem gather {body : D → (D × D) → M (Fl D D)} {T : Mo} (hT : ∀ row ∈ T, row.length ≤ 4) (hl : T.length ≤ 4)
    (hb : ∀ (i : Nat) (row : List Nat) (xs : List D), T[i]? = some row → xs.length ≤ 100 → body (.lst xs) (.int (i : Nat), .str row) = pure (.next (.lst (xs ++ (hidR i 0 row).map plD)))) :
    loopM dec2 body (enD 0 (T.map D.str)) (.lst []) = pure (.next (.lst ((hidT 0 T).map plD))) := by
  rw [enD_map]
  have := loop_map (dec := dec2) (body := body) (fun a : List D => D.lst a) (fun p : List Nat × Nat => .tup [.int (p.2 : Nat), .str p.1]) (fun a p => a ++ (hidR p.2 0 p.1).map plD) (fun k a => k ≤ 4 ∧ a.length ≤ 4 * k) (T.zipIdx 0) 0 [] (fun j x a hj ⟨h1, h2⟩ => ⟨_, dec2_tup _ _, ?_, ?_⟩) ⟨by omega, by simp⟩
  · rw [this.1, fold_app, List.nil_append, hidT_zip]
  · obtain ⟨row, i⟩ := x
    obtain ⟨h3, h4⟩ := List.getElem?_eq_some_iff.mp hj
    rw [List.getElem_zipIdx] at h4
    cases h4
    rw [List.length_zipIdx] at h3
    rw [Nat.zero_add] at h1 h2 ⊢
    exact hb _ _ _ (List.getElem?_eq_getElem h3) (by omega)
  · obtain ⟨row, i⟩ := x
    obtain ⟨h3, h4⟩ := List.getElem?_eq_some_iff.mp hj
    rw [List.getElem_zipIdx] at h4
    cases h4
    rw [List.length_zipIdx] at h3
    have := hT _ (List.getElem_mem h3)
    rw [List.length_append, List.length_map, hidR_len]
    have := List.count_le_length (a := 63) (l := T[j])
    dsimp only
    omega
theorem unknown_eq {T : Mo} (hT : ∀ row ∈ T, row.length ≤ 4) (hl : T.length ≤ 4) : m_unknown_places (mD T) = pure (.lst ((hidT 0 T).map plD)) := by
  unfold m_unknown_places mB_unknown_places mD
  simp (config := {implicitDefEqProofs := false}) only [M.pure_bind, M.bind_assoc, f_l0, en_tup]
  rw [gather hT hl]
  · rw [M.pure_bind, tl_next, M.pure_bind, r_ret]
  · intro i row xs hi hx
    have hr := hT row (List.mem_of_getElem? hi)
    simp (config := {implicitDefEqProofs := false}) only [M.pure_bind, M.bind_assoc, en_str]
    rw [enD_map, comp_map (dec := dec2) (fun p : Nat × Nat => .tup [.int (p.2 : Nat), .str [p.1]]) (fun p => p.1 == 63) (fun p => plD (i, p.2)) fun p _ => ⟨_, dec2_tup _ _, ?_, fun _ => ?_⟩]
    · rw [hidR_zip]
      have h3 := hidR_len i row 0
      have := List.count_le_length (a := 63) (l := row)
      rw [M.pure_bind, f_lst (by rw [List.length_map]; omega), M.pure_bind, add_ll (by rw [List.length_map]; omega), M.pure_bind]
    · rw [eq_ss, M.pure_bind, b_as, beq1]
    · rw [mk_t2]
      rfl
theorem hidden_range (i : Nat) (row : List Nat) : (((List.range row.length).filter fun j => row[j]? == some 63).map fun j => plD (i, j)) = (hidR i 0 row).map plD := by
  have key : ∀ (suf pre : List Nat), (((List.range' pre.length suf.length).filter fun j => (pre ++ suf)[j]? == some 63).map fun j => plD (i, j)) = (hidR i pre.length suf).map plD := by
    intro suf
    induction suf with
    | nil => intro pre; rfl
    | cons c suf ih =>
      intro pre
      have e := ih (pre ++ [c])
      rw [List.append_assoc, List.length_append, List.length_singleton, List.singleton_append] at e
      rw [List.length_cons, List.range'_succ]
      unfold hidR
      have h0 : (pre ++ c :: suf)[pre.length]? = some c := by rw [List.getElem?_append_right (Nat.le_refl _), Nat.sub_self]; rfl
      by_cases h : c = 63
      · rw [if_pos h, List.filter_cons_of_pos (by rw [h0, h]; rfl), List.map_cons, List.map_cons, e]
      · rw [if_neg h, List.filter_cons_of_neg (by rw [h0]; simpa using h), e]
  have := key row []
  rw [List.nil_append, List.length_nil] at this
  rw [List.range_eq_range']
  exact this
def setAt (T : Mo) (p : Nat × Nat) (c : Nat) : Mo := match T[p.1]? with
  | some row => T.set p.1 (row.set p.2 c)
  | none => T
theorem cut_to {α : Type} (xs : List α) (k : Nat) : cutL xs none (some (k : Int)) = xs.take k := by
  unfold cutL
  rw [HT.sIx_none, HT.sIx_nat, List.drop_zero, Nat.sub_zero]
  by_cases h : k ≤ xs.length
  · rw [Nat.min_eq_left h]
  · rw [Nat.min_eq_right (by omega), List.take_of_length_le (by omega), List.take_of_length_le (by omega)]
theorem cut_from {α : Type} (xs : List α) (k : Nat) : cutL xs (some (k : Int)) none = xs.drop k := by
  unfold cutL
  rw [HT.sIx_none, HT.sIx_nat]
  by_cases h : k ≤ xs.length
  · rw [Nat.min_eq_left h, List.take_of_length_le (by rw [List.length_drop]; omega)]
  · rw [Nat.min_eq_right (by omega), List.drop_eq_nil_of_le (Nat.le_refl _), List.drop_eq_nil_of_le (as := xs) (by omega), List.take_nil]
theorem add_ss {a b : List Nat} (h : a.length + b.length ≤ 16777216) : dAdd (.str a) (.str b) = pure (.str (a ++ b)) := if_pos h
theorem sl_str (cs : List Nat) (lo hi : Option Int) : dSlice (.str cs) lo hi = pure (.str (cutL cs lo hi)) := rfl
theorem sl_tup (cs : List D) (lo hi : Option Int) : dSlice (.tup cs) lo hi = pure (.tup (cutL cs lo hi)) := rfl
theorem sl_lst (cs : List D) (lo hi : Option Int) : dSlice (.lst cs) lo hi = pure (.lst (cutL cs lo hi)) := rfl
theorem set_cut {α : Type} (xs : List α) (k : Nat) (a : α) (h : k < xs.length) : xs.take k ++ [a] ++ xs.drop (k + 1) = xs.set k a := by
  rw [List.set_eq_take_append_cons_drop, if_pos h, List.append_assoc]
  rfl
theorem with_eq {T : Mo} {i j c : Nat} {row : List Nat} (hi : T[i]? = some row) (hj : j < row.length) (hr : row.length ≤ 4) (hT : T.length ≤ 4) : m_with_sign (mD T) (plD (i, j)) (.str [c]) = pure (mD (setAt T (i, j) c)) := by
  have hlt : i < T.length := (List.getElem?_eq_some_iff.mp hi).1
  have x0 : dIndex (plD (i, j)) (.int 0) = pure (.int (i : Nat)) := ix_tup rfl
  have x1 : dIndex (plD (i, j)) (.int 1) = pure (.int (j : Nat)) := ix_tup rfl
  have xr : dIndex (mD T) (.int (i : Nat)) = pure (.str row) := ix_tup (at_nat (by rw [List.getElem?_map, hi]; rfl))
  unfold m_with_sign mB_with_sign
  simp (config := {implicitDefEqProofs := false}) only [M.pure_bind, M.bind_assoc, x0, x1, xr, as_i, sl_str, ii_add]
  have k1 := cutL_len row none (some (j : Int))
  have k2 := cutL_len row (some ((j : Int) + 1)) none
  have s1 : dAdd (.str (cutL row none (some (j : Int)))) (.str [c]) = pure (.str (cutL row none (some (j : Int)) ++ [c])) := add_ss (by rw [List.length_singleton]; omega)
  have s2 : dAdd (.str (cutL row none (some (j : Int)) ++ [c])) (.str (cutL row (some ((j : Int) + 1)) none)) = pure (.str (cutL row none (some (j : Int)) ++ [c] ++ cutL row (some ((j : Int) + 1)) none)) := add_ss (by rw [List.length_append, List.length_singleton]; omega)
  unfold mD
  simp (config := {implicitDefEqProofs := false}) only [M.pure_bind, M.bind_assoc, s1, s2, sl_tup, mk_t1]
  have l1 := cutL_len (T.map D.str) none (some (i : Int))
  have l2 := cutL_len (T.map D.str) (some ((i : Int) + 1)) none
  rw [List.length_map] at l1 l2
  rw [add_tt (by rw [List.length_singleton]; omega), M.pure_bind, add_tt (by rw [List.length_append, List.length_singleton]; omega), M.pure_bind, r_ret]
  unfold setAt
  rw [hi]
  rw [show ((j : Int) + 1) = ((j + 1 : Nat) : Int) by omega, show ((i : Int) + 1) = ((i + 1 : Nat) : Int) by omega, cut_to, cut_from, cut_to, cut_from, set_cut row j c hj, set_cut _ i _ (by rw [List.length_map]; exact hlt), List.map_set]
def opts (c : Nat) : List Nat := if c = 63 then [43, 45, 48] else [c]
/-- all texts -/
def ex : List Nat → List (List Nat)
  | [] => [[]]
  | c :: r => (opts c).flatMap fun a => (ex r).map (a :: ·)
def exT : Mo → List Mo
  | [] => [[]]
  | row :: T => (ex row).flatMap fun r => (exT T).map (r :: ·)
def fillStep (F : List Mo) (p : Nat × Nat) : List Mo := F.flatMap fun one => [43, 45, 48].map (setAt one p)
theorem fill_app (ps : List (Nat × Nat)) : ∀ (F G : List Mo), ps.foldl fillStep (F ++ G) = ps.foldl fillStep F ++ ps.foldl fillStep G := by
  induction ps with
  | nil => intro F G; rfl
  | cons p ps ih =>
    intro F G
    rw [List.foldl_cons, List.foldl_cons, List.foldl_cons, ← ih]
    unfold fillStep
    rw [List.flatMap_append]
theorem setAt_mid (pre T : Mo) (rp rs : List Nat) (c a : Nat) : setAt (pre ++ (rp ++ c :: rs) :: T) (pre.length, rp.length) a = pre ++ (rp ++ a :: rs) :: T := by
  unfold setAt
  have e : (pre ++ (rp ++ c :: rs) :: T)[pre.length]? = some (rp ++ c :: rs) := by rw [List.getElem?_append_right (Nat.le_refl _), Nat.sub_self]; rfl
  dsimp only
  rw [e]
  dsimp only
  rw [List.set_append_right _ _ (Nat.le_refl _), Nat.sub_self, List.set_cons_zero, List.set_append_right _ _ (Nat.le_refl _), Nat.sub_self, List.set_cons_zero]
theorem fill_row (pre T : Mo) : ∀ (rs rp : List Nat), (hidR pre.length rp.length rs).foldl fillStep [pre ++ (rp ++ rs) :: T] = (ex rs).map fun r => pre ++ (rp ++ r) :: T
  | [], rp => rfl
  | c :: rs, rp => by
    unfold hidR ex opts
    have ih := fun a => fill_row pre T rs (rp ++ [a])
    simp only [List.length_append, List.length_singleton, List.append_assoc, List.singleton_append] at ih
    by_cases h : c = 63
    · rw [if_pos h, if_pos h, List.foldl_cons]
      have e : fillStep [pre ++ (rp ++ c :: rs) :: T] (pre.length, rp.length) = [pre ++ (rp ++ 43 :: rs) :: T] ++ ([pre ++ (rp ++ 45 :: rs) :: T] ++ [pre ++ (rp ++ 48 :: rs) :: T]) := by
        unfold fillStep
        simp only [List.flatMap_cons, List.flatMap_nil, List.append_nil, List.map_cons, List.map_nil, setAt_mid]
        rfl
      rw [e, fill_app, fill_app, ih, ih, ih]
      simp only [List.flatMap_cons, List.flatMap_nil, List.append_nil, List.map_append, List.map_map]
      rfl
    · rw [if_neg h, if_neg h, ih c]
      simp only [List.flatMap_cons, List.flatMap_nil, List.append_nil, List.map_map]
      rfl
theorem fill_list (ps : List (Nat × Nat)) : ∀ (F : List Mo), ps.foldl fillStep F = F.flatMap fun x => ps.foldl fillStep [x]
  | [] => by
    have : ∀ ps : List (Nat × Nat), ps.foldl fillStep [] = [] := fun ps => by
      induction ps with
      | nil => rfl
      | cons p ps ih => exact ih
    rw [this]; rfl
  | x :: F => by
    rw [show x :: F = [x] ++ F from rfl, fill_app, fill_list ps F]
    rfl
theorem fill_all : ∀ (T pre : Mo), (hidT pre.length T).foldl fillStep [pre ++ T] = (exT T).map (pre ++ ·)
  | [], pre => rfl
  | row :: T, pre => by
    unfold hidT exT
    have e := fill_row pre T row []
    rw [List.length_nil, List.nil_append] at e
    rw [List.foldl_append, e, fill_list, List.flatMap_map, List.map_flatMap]
    congr 1
    funext r
    have ih := fill_all T (pre ++ [r])
    rw [List.length_append, List.length_singleton, List.append_assoc] at ih
    rw [List.nil_append]
    show (hidT (pre.length + 1) T).foldl fillStep [pre ++ ([r] ++ T)] = _
    rw [ih, List.map_map]
    congr 1
    funext t
    rw [Function.comp, List.append_assoc]
    rfl
/-- as many rows, as long -/
def Shp (T T' : Mo) : Prop := T'.map List.length = T.map List.length
theorem Shp.len {T T' : Mo} (h : Shp T T') : T'.length = T.length := by
  have := congrArg List.length h
  rw [List.length_map, List.length_map] at this
  exact this
theorem Shp.at {T T' : Mo} (h : Shp T T') {i : Nat} {row : List Nat} (hi : T[i]? = some row) : ∃ row', T'[i]? = some row' ∧ row'.length = row.length := by
  have e : (T'.map List.length)[i]? = (T.map List.length)[i]? := by rw [show T'.map List.length = T.map List.length from h]
  rw [List.getElem?_map, List.getElem?_map, hi] at e
  cases h2 : T'[i]? with
  | none => rw [h2] at e; cases e
  | some r => rw [h2] at e; exact ⟨r, rfl, Option.some.inj e⟩
theorem Shp.set {T T' : Mo} (h : Shp T T') (p : Nat × Nat) (c : Nat) : Shp T (setAt T' p c) := by
  unfold setAt
  cases e : T'[p.1]? with
  | none => exact h
  | some row =>
    dsimp only
    unfold Shp
    rw [List.map_set, List.length_set, ← h]
    refine List.ext_getElem? fun i => ?_
    by_cases hi : p.1 = i
    · subst hi
      have hl := (List.getElem?_eq_some_iff.mp e).1
      rw [List.getElem?_set_self (by rw [List.length_map]; exact hl), List.getElem?_map, e]
      rfl
    · rw [List.getElem?_set_ne hi]
theorem hidR_in {i : Nat} {p : Nat × Nat} : ∀ {r : List Nat} {j : Nat}, p ∈ hidR i j r → p.1 = i ∧ j ≤ p.2 ∧ p.2 < j + r.length
  | [], _, h => nomatch h
  | c :: r, j, h => by
    unfold hidR at h
    by_cases hc : c = 63
    · rw [if_pos hc] at h
      rcases List.mem_cons.mp h with e | h
      · subst e
        exact ⟨rfl, Nat.le_refl _, by rw [List.length_cons]; exact Nat.lt_add_of_pos_right (Nat.succ_pos _)⟩
      · have := hidR_in h
        rw [List.length_cons]
        omega
    · rw [if_neg hc] at h
      have := hidR_in h
      rw [List.length_cons]
      omega
theorem hidT_in {p : Nat × Nat} : ∀ {T : Mo} {i : Nat}, p ∈ hidT i T → i ≤ p.1 ∧ ∃ row, T[p.1 - i]? = some row ∧ p.2 < row.length
  | [], _, h => nomatch h
  | row :: T, i, h => by
    unfold hidT at h
    rcases List.mem_append.mp h with h | h
    · have := hidR_in h
      refine ⟨by omega, row, ?_, by omega⟩
      rw [this.1, Nat.sub_self]
      rfl
    · obtain ⟨h1, r, h2, h3⟩ := hidT_in h
      refine ⟨by omega, r, ?_, h3⟩
      rw [show p.1 - i = (p.1 - (i + 1)) + 1 by omega, List.getElem?_cons_succ]
      exact h2
theorem known_w : asW k_KNOWN_SIGNS = pure ([43, 45, 48].map fun c => D.str [c]) := rfl
theorem alike_strs : ∀ (xs ys : List (List Nat)), PySem.W.alikeAll (toPys (xs.map D.str)) (toPys (ys.map D.str)) = true
  | [], _ => by
    rw [List.map_nil, toPys]
    unfold PySem.W.alikeAll
    rfl
  | x :: xs, [] => by
    rw [List.map_nil, List.map_cons, toPys, toPys]
    unfold PySem.W.alikeAll
    rfl
  | x :: xs, y :: ys => by
    rw [List.map_cons, List.map_cons, toPys, toPys, toPy, toPy]
    unfold PySem.W.alikeAll PySem.W.alike
    rw [alike_strs xs ys]
    rfl
theorem mD_ok {n : Nat} (T : Mo) : okD (n + 1) (mD T) = true := ok_tup.mpr fun d hd => by
  obtain ⟨cs, _, rfl⟩ := List.mem_map.mp hd
  exact ok_str _
theorem sort_ok {F : List Mo} (h : ∀ T ∈ F, T ≠ []) : sortOk (F.map mD) = true := by
  unfold sortOk
  rw [Bool.and_eq_true, Bool.and_eq_true, Bool.or_eq_true]
  refine ⟨⟨okDs_iff.mpr fun d hd => ?_, List.all_eq_true.mpr fun x hx => List.all_eq_true.mpr fun y hy => ?_⟩, .inl (List.all_eq_true.mpr fun x hx => ?_)⟩
  · obtain ⟨T, _, rfl⟩ := List.mem_map.mp hd
    exact mD_ok T
  · obtain ⟨T, _, rfl⟩ := List.mem_map.mp hx
    obtain ⟨T', _, rfl⟩ := List.mem_map.mp hy
    unfold mD
    rw [toPy, toPy]
    unfold PySem.W.alike
    exact alike_strs T T'
  · obtain ⟨T, hT, rfl⟩ := List.mem_map.mp hx
    cases T with
    | nil => exact absurd rfl (h _ hT)
    | cons _ _ => rfl
theorem srt_len (xs : List D) : (srt xs).length = xs.length := List.length_mergeSort xs
theorem srt_mem {xs : List D} {d : D} : d ∈ srt xs ↔ d ∈ xs := List.mem_mergeSort
theorem pow3 {k : Nat} (h : k ≤ 4) : 3 ^ k ≤ 81 := Nat.pow_le_pow_right (n := 3) (by decide) h
/-- a model's frame: up to four rows of up to four -/
structure Sm (T : Mo) : Prop where
  len : T.length ≤ 4
  row : ∀ row ∈ T, row.length ≤ 4
  few : (hidT 0 T).length ≤ 4
  ne : T ≠ []
theorem Shp.row {T T' : Mo} (h : Shp T T') (hT : Sm T) : ∀ row ∈ T', row.length ≤ 4 := fun row hr => by
  obtain ⟨i, hi⟩ := List.mem_iff_getElem?.mp hr
  obtain ⟨row', h1, h2⟩ := Shp.at (T := T') (T' := T) h.symm hi
  have := hT.row row' (List.mem_of_getElem? h1)
  omega
theorem fill_shape {T : Mo} {F : List Mo} {p : Nat × Nat} (h : ∀ T' ∈ F, Shp T T') : ∀ T' ∈ fillStep F p, Shp T T' := fun T' hT' => by
  unfold fillStep at hT'
  obtain ⟨one, h1, h2⟩ := List.mem_flatMap.mp hT'
  obtain ⟨c, _, rfl⟩ := List.mem_map.mp h2
  exact (h one h1).set p c
theorem fill_len (F : List Mo) (p : Nat × Nat) : (fillStep F p).length = 3 * F.length := by
  unfold fillStep
  induction F with
  | nil => rfl
  | cons one F ih => rw [List.flatMap_cons, List.length_append, ih, List.length_map, List.length_cons, List.length_cons]; simp; omega
theorem sorted_new {F : List Mo} (h : ∀ T ∈ F, T ≠ []) : dSorted newC (.lst (F.map mD)) = newC (srt (F.map mD)) := by
  show (if sortOk (F.map mD) = true then newC (srt (F.map mD)) else M.stuck) = _
  rw [if_pos (sort_ok h)]
theorem sorted_lst {F : List Mo} (h : ∀ T ∈ F, T ≠ []) : dSorted fLst (.lst (F.map mD)) = fLst (srt (F.map mD)) := by
  show (if sortOk (F.map mD) = true then fLst (srt (F.map mD)) else M.stuck) = _
  rw [if_pos (sort_ok h)]
theorem shp_ne {T T' : Mo} (hT : Sm T) (h : Shp T T') : T' ≠ [] := fun e => by
  have := h.len
  rw [e] at this
  have h2 := hT.ne
  cases T with
  | nil => exact h2 rfl
  | cons _ _ => cases this
theorem exT_is (T : Mo) : (hidT 0 T).foldl fillStep [T] = exT T := by
  have hf := fill_all T []
  rw [List.length_nil, List.nil_append] at hf
  rw [hf]
  exact List.map_id _
theorem fold_all {T : Mo} (hT : Sm T) : (exT T).length ≤ 81 ∧ ∀ T' ∈ exT T, Shp T T' := by
  have key : ∀ (ps : List (Nat × Nat)) (F : List Mo), (∀ T' ∈ F, Shp T T') → (ps.foldl fillStep F).length = 3 ^ ps.length * F.length ∧ ∀ T' ∈ ps.foldl fillStep F, Shp T T' := by
    intro ps
    induction ps with
    | nil => intro F h; exact ⟨by simp, h⟩
    | cons p ps ih =>
      intro F h
      obtain ⟨h1, h2⟩ := ih (fillStep F p) (fill_shape h)
      refine ⟨?_, h2⟩
      rw [List.foldl_cons, h1, fill_len, List.length_cons, Nat.pow_succ, Nat.mul_assoc]
  obtain ⟨h1, h2⟩ := key (hidT 0 T) [T] fun T' h => by rw [List.mem_singleton.mp h]; rfl
  rw [exT_is] at h1 h2
  refine ⟨?_, h2⟩
  rw [h1, List.length_singleton, Nat.mul_one]
  exact pow3 hT.few
def exStep (F : List (List Nat)) (c : Nat) : List (List Nat) := F.flatMap fun t => (opts c).map fun a => t ++ [a]
theorem ex_fold : ∀ (X : List Nat) (F : List (List Nat)), X.foldl exStep F = F.flatMap fun t => (ex X).map (t ++ ·)
  | [], F => by
    unfold ex
    simp
  | c :: X, F => by
    rw [List.foldl_cons, ex_fold X]
    rw [show ex (c :: X) = (opts c).flatMap fun a => (ex X).map (a :: ·) from rfl]
    unfold exStep
    rw [List.flatMap_assoc]
    congr 1
    funext t
    rw [List.flatMap_map, List.map_flatMap]
    congr 1
    funext a
    rw [List.map_map]
    congr 1
    funext s
    simp
theorem ex_append (a b : List Nat) : ex (a ++ b) = (ex a).flatMap fun x => (ex b).map (x ++ ·) := by
  have h1 := ex_fold (a ++ b) [[]]
  rw [List.foldl_append, ex_fold a, ex_fold b] at h1
  simpa using h1.symm
theorem ex_lf (b : List Nat) : ex (10 :: b) = (ex b).map (10 :: ·) := by
  rw [ex]
  show [10].flatMap _ = _
  simp
theorem exT_ne {T : Mo} (h : T ≠ []) : ∀ T' ∈ exT T, T' ≠ [] := by
  cases T with
  | nil => exact absurd rfl h
  | cons row T =>
    intro T' hT'
    unfold exT at hT'
    obtain ⟨r, _, hr⟩ := List.mem_flatMap.mp hT'
    obtain ⟨t, _, rfl⟩ := List.mem_map.mp hr
    exact List.cons_ne_nil _ _
theorem ex_join : ∀ T : Mo, T ≠ [] → ex (joinL [10] T) = (exT T).map (joinL [10])
  | [], h => absurd rfl h
  | [row], _ => by
    show ex row = (exT [row]).map (joinL [10])
    unfold exT exT
    simp only [List.map_cons, List.map_nil, List.map_flatMap]
    show _ = (ex row).flatMap fun r => [r]
    simp
  | row :: q :: T, _ => by
    show ex (row ++ ([10] ++ joinL [10] (q :: T))) = _
    rw [ex_append, List.singleton_append, ex_lf, ex_join (q :: T) (List.cons_ne_nil _ _)]
    rw [show exT (row :: q :: T) = (ex row).flatMap fun r => (exT (q :: T)).map (r :: ·) from rfl, List.map_flatMap]
    congr 1
    funext r
    rw [List.map_map, List.map_map, List.map_map]
    refine List.map_congr_left fun t ht => ?_
    have hne := exT_ne (List.cons_ne_nil q T) t ht
    cases t with
    | nil => exact absurd rfl hne
    | cons x t => rfl
theorem ex_mem : ∀ {X t : List Nat}, t ∈ ex X → t.length = X.length ∧ ∀ c ∈ t, c ∈ X ∨ c = 43 ∨ c = 45 ∨ c = 48
  | [], t, h => by
    unfold ex at h
    rw [List.mem_singleton.mp h]
    exact ⟨rfl, fun _ h => nomatch h⟩
  | c :: X, t, h => by
    unfold ex at h
    obtain ⟨a, ha, h⟩ := List.mem_flatMap.mp h
    obtain ⟨s, hs, rfl⟩ := List.mem_map.mp h
    obtain ⟨h1, h2⟩ := ex_mem hs
    refine ⟨by rw [List.length_cons, List.length_cons, h1], fun d hd => ?_⟩
    rcases List.mem_cons.mp hd with e | hd
    · subst e
      unfold opts at ha
      by_cases hc : c = 63
      · rw [if_pos hc] at ha
        simp at ha
        exact .inr ha
      · rw [if_neg hc] at ha
        exact .inl (by rw [List.mem_singleton.mp ha]; exact List.mem_cons_self)
    · rcases h2 d hd with q | q
      · exact .inl (List.mem_cons_of_mem _ q)
      · exact .inr q
theorem exT_mem : ∀ {T T' : Mo}, T' ∈ exT T → T'.length = T.length ∧ ∀ (i : Nat) (r : List Nat), T'[i]? = some r → ∃ r0, T[i]? = some r0 ∧ r ∈ ex r0
  | [], T', h => by
    unfold exT at h
    rw [List.mem_singleton.mp h]
    exact ⟨rfl, fun _ _ h => nomatch h⟩
  | row :: T, T', h => by
    unfold exT at h
    obtain ⟨a, ha, h⟩ := List.mem_flatMap.mp h
    obtain ⟨s, hs, rfl⟩ := List.mem_map.mp h
    obtain ⟨h1, h2⟩ := exT_mem hs
    refine ⟨by rw [List.length_cons, List.length_cons, h1], fun i r hr => ?_⟩
    cases i with
    | zero => cases hr; exact ⟨row, rfl, ha⟩
    | succ i => exact h2 i r hr
/-- no line feed within -/
def NoLf (T : Mo) : Prop := ∀ row ∈ T, ∀ c ∈ row, c ≠ 10
theorem exT_lf {T T' : Mo} (h : NoLf T) (hT : T' ∈ exT T) : ∀ row ∈ T', 10 ∉ row := fun row hr hc => by
  obtain ⟨i, hi⟩ := List.mem_iff_getElem?.mp hr
  obtain ⟨r0, h1, h2⟩ := (exT_mem hT).2 i row hi
  rcases (ex_mem h2).2 10 hc with q | q | q | q
  · exact h r0 (List.mem_of_getElem? h1) 10 q rfl
  · cases q
  · cases q
  · cases q
theorem exStep_len (F : List (List Nat)) (c : Nat) : (exStep F c).length = (if c = 63 then 3 else 1) * F.length := by
  unfold exStep
  induction F with
  | nil => rfl
  | cons t F ih =>
    rw [List.flatMap_cons, List.length_append, ih, List.length_map, List.length_cons]
    unfold opts
    by_cases h : c = 63
    · rw [if_pos h, if_pos h]; simp; omega
    · rw [if_neg h, if_neg h]; simp; omega
theorem join_len : ∀ T : Mo, T.length ≤ 4 → (∀ row ∈ T, row.length ≤ 4) → (joinL [10] T).length ≤ 5 * T.length
  | [], _, _ => Nat.zero_le _
  | [row], _, h => by have := h row List.mem_cons_self; show row.length ≤ 5; omega
  | row :: q :: T, h1, h2 => by
    have ih := join_len (q :: T) (by rw [List.length_cons] at h1; omega) fun r hr => h2 r (List.mem_cons_of_mem _ hr)
    have := h2 row List.mem_cons_self
    show (row ++ ([10] ++ joinL [10] (q :: T))).length ≤ _
    rw [List.length_append, List.length_append, List.length_cons (a := row)]
    simp only [List.length_singleton]
    omega
theorem join_cnt : ∀ T : Mo, (joinL [10] T).count 63 = (T.map (·.count 63)).sum
  | [] => rfl
  | [row] => by show row.count 63 = _; simp
  | row :: q :: T => by
    have ih := join_cnt (q :: T)
    show (row ++ ([10] ++ joinL [10] (q :: T))).count 63 = _
    rw [List.count_append, List.count_append, ih, List.map_cons (a := row), List.sum_cons]
    simp
theorem rows_sum : ∀ T : Mo, (∀ row ∈ T, row.length ≤ 4) → (T.map List.length).sum ≤ 4 * T.length
  | [], _ => Nat.zero_le _
  | row :: T, h => by
    have := rows_sum T fun r hr => h r (List.mem_cons_of_mem _ hr)
    have := h row List.mem_cons_self
    rw [List.map_cons, List.sum_cons, List.length_cons]
    omega
theorem join_rows10 {T : Mo} (h1 : T.length ≤ 4) (h2 : ∀ row ∈ T, row.length ≤ 4) : dJoin (.str [10]) (.lst (T.map D.str)) = pure (.str (joinL [10] T)) := by
  show (asL (.lst (T.map D.str)) >>= fun xs => ofO (strsOf xs) >>= fun ys => if joinOk [10] ys = true then pure (D.str (joinL [10] ys)) else M.stuck) = _
  show (ofO (strsOf (T.map D.str)) >>= fun ys => if joinOk [10] ys = true then pure (D.str (joinL [10] ys)) else M.stuck) = _
  rw [strsOf_map, ofO_some, M.pure_bind, if_pos]
  have : (T.map (·.length)).sum ≤ 4 * T.length := rows_sum T h2
  unfold joinOk
  rw [decide_eq_true_eq, List.length_singleton]
  omega
theorem split_rows {T : Mo} (h0 : T ≠ []) (h1 : T.length ≤ 4) (h2 : ∀ row ∈ T, row.length ≤ 4) (h3 : ∀ row ∈ T, 10 ∉ row) : dSplit fLst (.str (joinL [10] T)) (.str [10]) = pure (.lst (T.map D.str)) := by
  show (if splOk (joinL [10] T) [10] = true then fLst ((TL.spl [10] 0 [] (joinL [10] T)).map D.str) else M.stuck) = _
  rw [if_pos, TL.spl_join h0 h3, f_lst (by rw [List.length_map]; omega)]
  unfold splOk
  have := join_len T h1 h2
  rw [Bool.and_eq_true, Bool.and_eq_true, decide_eq_true_eq, decide_eq_true_eq]
  exact ⟨⟨rfl, by omega⟩, TL.kind_ok (by rw [← Array.all_toList]; decide)⟩
theorem cnt_take {X : List Nat} {k c : Nat} (h : X[k]? = some c) : (X.take (k + 1)).count 63 = (X.take k).count 63 + (if c = 63 then 1 else 0) := by
  rw [List.take_succ, h, List.count_append]
  by_cases hc : c = 63
  · rw [if_pos hc, hc]; rfl
  · rw [if_neg hc]
    show _ + [c].count 63 = _
    rw [List.count_singleton, if_neg (by rw [beq_iff_eq]; exact hc)]
theorem l_list (xs : List D) : dList fLst (.tup xs) = fLst xs := rfl
/-- grown: all as it was, cells added -/
structure Gr (st s : Store) : Prop where
  len : st.length ≤ s.length
  keep : ∀ j, j < st.length → s[j]? = st[j]?
theorem Gr.refl {st : Store} : Gr st st := ⟨Nat.le_refl _, fun _ _ => rfl⟩
theorem Gr.trans {a b c : Store} (h : Gr a b) (k : Gr b c) : Gr a c := ⟨Nat.le_trans h.len k.len, fun j hj => (k.keep j (Nat.lt_of_lt_of_le hj h.len)).trans (h.keep j hj)⟩
theorem Gr.push {st : Store} (c : Cell) : Gr st (st ++ [c]) := ⟨by rw [List.length_append]; omega, fun j hj => List.getElem?_append_left hj⟩
theorem Gr.set {st s : Store} {k : Nat} (h : Gr st s) (hk : st.length ≤ k) (c : Cell) : Gr st (s.set k c) := ⟨by rw [List.length_set]; exact h.len, fun j hj => by rw [List.getElem?_set_ne (by omega)]; exact h.keep j hj⟩
theorem Gr.fr {i : Nat} {st s : Store} (h : Gr st s) (g : Gs i st) : Fr i st s := ⟨h.len, fun j hj _ => h.keep j hj, let ⟨a, b, q⟩ := g; ⟨a, b, by rw [h.keep i g.lt]; exact q⟩⟩
theorem Gr.at {st s : Store} (h : Gr st s) {j : Nat} {c : Cell} (hj : st[j]? = some c) : s[j]? = some c := (h.keep j (List.getElem?_eq_some_iff.mp hj).1).trans hj
theorem f_l2 (a b : D) : fLst [a, b] = pure (.lst [a, b]) := if_pos (show (2 : Nat) ≤ 16777216 by decide)
theorem f_l1 (a : D) : fLst [a] = pure (.lst [a]) := if_pos (show (1 : Nat) ≤ 16777216 by decide)
theorem f_l3 (a b c : D) : fLst [a, b, c] = pure (.lst [a, b, c]) := if_pos (show (3 : Nat) ≤ 16777216 by decide)
theorem cat_ll {xs ys : List D} {st : Store} (h : (xs ++ ys).length ≤ 16777216) : dCat newC (.lst xs) (.lst ys) st = .ok (.ref st.length) (st ++ [.lst (xs ++ ys)]) := n_cel h
theorem cat_rl {k : Nat} {xs ys : List D} {st : Store} (hk : st[k]? = some (.lst xs)) (h : (xs ++ ys).length ≤ 16777216) : dCat newC (.ref k) (.lst ys) st = .ok (.ref st.length) (st ++ [.lst (xs ++ ys)]) := by
  show (rdC k >>= fun xs => asLL (.lst ys) >>= fun ys => newC (xs ++ ys)) st = _
  rw [bind_ok (rdC_ok hk)]
  exact n_cel h
def errTbl : List (PySem.Str × List Nat) := [("InvalidModel", [109, 111, 100, 101, 108]), ("InvalidSizes", [115, 105, 122, 101, 115]), ("InvalidQuantity", [113, 117, 97, 110, 116, 105, 116, 121]), ("InvalidLot", [108, 111, 116]), ("InvalidSign", [115, 105, 103, 110]), ("InvalidPlace", [112, 108, 97, 99, 101]), ("InvalidSeen", [115, 101, 101, 110]), ("Unlike", [117, 110, 108, 105, 107, 101]), ("NothingToUndo", [117, 110, 100, 111]), ("TooMany", [109, 97, 110, 121]), ("InvalidText", [116, 101, 120, 116])]
def errWord (isE : PySem.Str → Bool) : List Nat := joinL [32] ((errTbl.filter fun p => isE p.1).map (·.2))
theorem filt_sum (f : PySem.Str × List Nat → Bool) : ∀ l : List (PySem.Str × List Nat), (((l.filter f).map (·.2)).map List.length).sum ≤ ((l.map (·.2)).map List.length).sum
  | [] => Nat.le_refl _
  | p :: l => by
    have ih := filt_sum f l
    rw [List.filter_cons]
    cases f p with
    | true => simp only [if_true, List.map_cons, List.sum_cons]; omega
    | false => simp only [Bool.false_eq_true, if_false, List.map_cons, List.sum_cons]; omega
theorem catch_ok {cls : List PySem.Str} {mErr : PySem.Str → M D} {mb : M D} {st : Store} {P : D → Store → Prop} (h : Tr mb st P) : Tr (catchM cls mErr mb) st fun d s => d = .str [] ∧ ∃ x, P x s := by
  obtain ⟨a, s, e, p⟩ := h.ex
  exact tr_ok (by unfold catchM; rw [e]) ⟨rfl, a, p⟩
theorem catch_exc {cls : List PySem.Str} {mErr : PySem.Str → M D} {mb : M D} {st s : Store} {c : PySem.Str} {P : D → Store → Prop} (e : mb st = .exc ⟨c, []⟩ s) (hc : cls.contains c = true) (h : Tr (mErr c) s P) : Tr (catchM cls mErr mb) st P := by
  obtain ⟨a, s2, e2, p⟩ := h.ex
  refine tr_ok (a := a) (s := s2) ?_ p
  unfold catchM
  rw [e]
  show (if (cls.contains c && true) = true then nox (mErr c) s else .stuck) = _
  rw [hc]
  show nox (mErr c) s = _
  unfold nox
  rw [e2]
theorem tab_ok {j : Nat} {x q : PySem.Str} {st : Store} (h : st[j]? = some (.tab x q)) : tabC j x q st = .ok () st := by
  rcases tabC_cases j x q st with ⟨_, e⟩ | e
  · exact e
  · unfold tabC at e ⊢
    rw [h] at e ⊢
    show (if (x == x && q == q) = true then R.ok () st else .stuck) = _
    rw [beq_self_eq_true, beq_self_eq_true]
    rfl
theorem sz_rows {B n : Nat} {d : D} (hB : B ≤ 16777216) (h : szD B n d = true) : ∀ xs, d = .tup xs → ∀ x ∈ xs, pl x = true ∧ ∀ cs, x = .str cs → cs.length ≤ 16777216 := fun xs e x hx => by
  subst e
  obtain ⟨_, k, hk⟩ := sz_items h
  refine ⟨sz_pl (hk x hx), fun cs e => ?_⟩
  subst e
  exact Nat.le_trans (sz_str (hk _ hx)) hB
theorem model_sz {B n : Nat} {d : D} (hB : B ≤ 16777216) (h : szD B n d = true) : m_is_right_model d = pure (.bl (modelOk d)) := model_eq (sz_pl h) (sz_rows hB h)
theorem rows_of {m : Nat} : ∀ {xs : List D}, (∀ x ∈ xs, rowOk m x = true) → ∃ T : Mo, xs = T.map D.str ∧ (∀ r ∈ T, r.length = m) ∧ ∀ r ∈ T, ∀ c ∈ r, c = 43 ∨ c = 45 ∨ c = 48 ∨ c = 63
  | [], _ => ⟨[], rfl, (fun r h => absurd h List.not_mem_nil), (fun r h => absurd h List.not_mem_nil)⟩
  | x :: xs, h => by
    obtain ⟨cs, rfl, h1, h2⟩ := row_str (h x List.mem_cons_self)
    obtain ⟨T, rfl, h3, h4⟩ := rows_of fun y hy => h y (List.mem_cons_of_mem _ hy)
    refine ⟨cs :: T, rfl, fun r hr => ?_, fun r hr => ?_⟩
    · rcases List.mem_cons.mp hr with e | hr
      · rw [e]; exact h1
      · exact h3 r hr
    · rcases List.mem_cons.mp hr with e | hr
      · rw [e]
        intro c hc
        have := h2 c hc
        unfold sgnB at this
        simp only [Bool.or_eq_true, beq_iff_eq] at this
        omega
      · exact h4 r hr
theorem sum_cnt (T : Mo) : ((T.map D.str).map cntD).sum = (T.map (·.count 63)).sum := by
  rw [List.map_map]
  rfl
theorem model_of {d : D} (h : modelOk d = true) : ∃ (m : Nat) (T : Mo), d = mD T ∧ 1 ≤ m ∧ m ≤ 4 ∧ MOk 4 m T := by
  cases d with
  | tup xs =>
    unfold modelOk at h
    simp only [Bool.and_eq_true, decide_eq_true_eq, List.all_eq_true] at h
    obtain ⟨⟨h1, h2⟩, h3, h4⟩ := h
    obtain ⟨T, rfl, h5, h6⟩ := rows_of h3
    rw [List.length_map] at h1 h2 h5
    rw [sum_cnt] at h4
    exact ⟨T.length, T, rfl, h1, h2, rfl, h5, h6, h4⟩
  | _ => cases h
theorem ok_of {m : Nat} {T : Mo} (h1 : 1 ≤ m) (h2 : m ≤ 4) (h : MOk 4 m T) : modelOk (mD T) = true := by
  show ((decide (1 ≤ (T.map D.str).length) && decide ((T.map D.str).length ≤ 4)) && ((T.map D.str).all (rowOk (T.map D.str).length) && decide (((T.map D.str).map cntD).sum ≤ 4))) = true
  rw [List.length_map, sum_cnt, h.len]
  simp only [Bool.and_eq_true, decide_eq_true_eq, List.all_eq_true]
  refine ⟨⟨h1, h2⟩, fun x hx => ?_, h.few⟩
  obtain ⟨r, hr, rfl⟩ := List.mem_map.mp hx
  show (decide (r.length = m) && r.all sgnB) = true
  rw [Bool.and_eq_true, decide_eq_true_eq, List.all_eq_true]
  refine ⟨h.row r hr, fun c hc => ?_⟩
  have := h.sgn r hr c hc
  unfold sgnB
  simp only [Bool.or_eq_true, beq_iff_eq]
  omega
theorem sm_of {m : Nat} {T : Mo} (h1 : 1 ≤ m) (h2 : m ≤ 4) (h : MOk 4 m T) : Sm T ∧ NoLf T := by
  refine ⟨⟨by rw [h.len]; exact h2, fun r hr => by rw [h.row r hr]; exact h2, ?_, fun e => ?_⟩, fun r hr c hc e => ?_⟩
  · rw [hidT_len]
    exact h.few
  · rw [e] at h
    have := h.len
    rw [List.length_nil] at this
    omega
  · have := h.sgn r hr c hc
    omega
theorem mD_sz {m : Nat} {T : Mo} (h2 : m ≤ 4) (h : MOk 4 m T) : szD 4 1 (mD T) = true := by
  unfold mD
  rw [sz_tup, List.length_map, h.len]
  refine ⟨h2, fun d hd => ?_⟩
  obtain ⟨r, hr, rfl⟩ := List.mem_map.mp hd
  show szD 4 0 (.str r) = true
  unfold szD
  rw [decide_eq_true_eq, h.row r hr]
  exact h2
theorem need_ok {d : D} (h : m_is_right_model d = pure (.bl true)) : m_need_model d = pure .non := by
  unfold m_need_model mB_need_model
  simp (config := {implicitDefEqProofs := false}) only [M.pure_bind, M.bind_assoc, m1, h, b_as, Bool.not_true, ifF]
  rfl
theorem need_bad {d : D} (h : m_is_right_model d = pure (.bl false)) : m_need_model d = M.throw ⟨"InvalidModel", []⟩ := by
  unfold m_need_model mB_need_model
  simp (config := {implicitDefEqProofs := false}) only [M.pure_bind, M.bind_assoc, m1, h, b_as, Bool.not_false, ↓reduceIte]
  rfl
/-- the word that is due -/
def due (d : D) : D := .str (if modelOk d = true then [] else [109, 111, 100, 101, 108])
/-- the tables stand -/
structure Tabs (st : Store) : Prop where
  t0 : st[0]? = some (.tab "_law_by_one" (lamQ "_law_by_one"))
  t1 : st[1]? = some (.tab "_law_by_two" (lamQ "_law_by_two"))
theorem Tabs.fr {i : Nat} {st s : Store} (h : Tabs st) (f : Fr i st s) (hi : 2 ≤ i) : Tabs s := ⟨f.at h.t0 (by omega), f.at h.t1 (by omega)⟩
theorem Tabs.gr {st s : Store} (h : Tabs st) (f : Gr st s) : Tabs s := ⟨f.at h.t0, f.at h.t1⟩
section
variable {B n : Nat} {d : D} {st : Store}
def rowS (m : Nat) : D → Bool
  | .tup ys => decide (ys.length = m) && ys.all (wi 1 1000000000000000000000000000000)
  | _ => false
def sizesOk (m : Nat) : D → Bool
  | .tup xs => decide (xs.length = m) && xs.all (rowS m)
  | _ => false
theorem filter_badD (p : D → Bool) : ∀ cs : List D, ((cs.filter fun c => !p c).map fun _ => D.int 1).isEmpty = cs.all p
  | [] => rfl
  | c :: cs => by
    cases h : p c with
    | true => rw [List.filter_cons_of_neg (by rw [h]; exact Bool.false_ne_true), filter_badD p cs, List.all_cons, h, Bool.true_and]
    | false => rw [List.filter_cons_of_pos (by rw [h]; rfl), List.all_cons, h]; rfl
theorem ones_okD (p : D → Bool) (cs : List D) : okDs 59 ((cs.filter p).map fun _ => D.int 1) = true := okDs_iff.mpr fun d hd => by
  obtain ⟨_, _, rfl⟩ := List.mem_map.mp hd
  exact ok_int _
end
section
variable {B n : Nat} {d : D} {st : Store}
end
theorem eq_bb (a : Bool) : dEq (.bl a) (.bl a) = pure (.bl true) := eq_same (ok_bl _)
theorem mul_l3 (a : D) : dMul (.lst [a]) (.int 3) = pure (.lst [a, a, a]) := rfl
theorem max_min (k : Nat) : ∃ n : Nat, n ≤ 20 ∧ (dMin2 (.int 20) (.int (k : Nat)) >>= fun x => dMax2 (.int 6) x) = pure (.int (n : Nat)) := by
  have e1 : ∀ a b : Int, dMin2 (.int a) (.int b) = pure (.int (if b < a then b else a)) := fun _ _ => rfl
  have e2 : ∀ a b : Int, dMax2 (.int a) (.int b) = pure (.int (if b > a then b else a)) := fun _ _ => rfl
  rw [e1, M.pure_bind, e2]
  by_cases h : (k : Int) < 20
  · rw [if_pos h]
    by_cases h2 : (k : Int) > 6
    · rw [if_pos h2]; exact ⟨k, by omega, rfl⟩
    · rw [if_neg h2]; exact ⟨6, by omega, rfl⟩
  · rw [if_neg h]
    exact ⟨20, by omega, rfl⟩
def Vz (d : D) : Prop := ∃ n, n ≤ 20 ∧ szD 5000 n d = true
theorem vz_of {B n : Nat} {d : D} (hB : B ≤ 5000) (hn : n ≤ 20) (h : szD B n d = true) : Vz d := ⟨n, hn, sz_mono hB d (Nat.le_refl _) h⟩
theorem vz_tup {xs : List D} (hl : xs.length ≤ 5000) (h : ∀ x ∈ xs, szD 5000 3 x = true) : Vz (.tup xs) := ⟨4, by decide, sz_tup.mpr ⟨hl, h⟩⟩
theorem vz_lst {xs : List D} (hl : xs.length ≤ 5000) (h : ∀ x ∈ xs, szD 5000 3 x = true) : Vz (.lst xs) := ⟨4, by decide, sz_lst.mpr ⟨hl, h⟩⟩
theorem str_sz {B n : Nat} {cs : List Nat} (h : cs.length ≤ B) : szD B n (.str cs) = true := by
  unfold szD
  exact decide_eq_true h
theorem join0 {T : Mo} (h1 : T.length ≤ 4) (h2 : ∀ row ∈ T, row.length ≤ 4) : dJoin (.str []) (.tup (T.map D.str)) = pure (.str (joinL [] T)) ∧ (joinL [] T).length ≤ 16 := by
  have hs : (T.map (·.length)).sum ≤ 4 * T.length := rows_sum T h2
  constructor
  · show (ofO (strsOf (T.map D.str)) >>= fun ys => if joinOk [] ys = true then pure (D.str (joinL [] ys)) else M.stuck) = _
    rw [strsOf_map, ofO_some, M.pure_bind, if_pos]
    unfold joinOk
    rw [decide_eq_true_eq, List.length_nil]
    omega
  · have := joinL_len [] T
    rw [List.length_nil] at this
    omega
theorem mul_t4 (a : D) : dMul (.tup [a]) (.int 4) = pure (.tup [a, a, a, a]) := by
  unfold dMul
  dsimp only
  rw [if_pos ⟨List.cons_ne_nil _ _, by decide, by decide, by simp⟩]
  rfl
theorem mk_t0 : mkTup [] = pure (.tup []) := rfl
theorem f_l6 (a b c d e f : D) : fLst [a, b, c, d, e, f] = pure (.lst [a, b, c, d, e, f]) := if_pos (show (6 : Nat) ≤ 16777216 by decide)
theorem isi_any {d : D} (h : Vz d) : (∃ ys, d = .tup ys) ∨ mIsi .tuple d = pure (.bl false) := let ⟨_, _, h⟩ := h; isi_no h
theorem rd_neC {st : Store} {k : Nat} {xs : List D} (h : st[k]? = some (.lst xs)) (ho : okD 60 (.lst xs) = true) : dNeC (.ref k) (.lst xs) st = .ok (.bl false) st := by
  show ((rdC k >>= fun xs => pure (D.lst xs)) >>= fun x => pk (.lst xs) >>= fun y => dNe x y) st = _
  rw [M.bind_assoc, bind_ok (rdC_ok h), M.pure_bind]
  show (dNe (.lst xs) (.lst xs)) st = _
  rw [ne_same ho]
  rfl
theorem rd_eqC {st : Store} {k : Nat} {xs : List D} (h : st[k]? = some (.lst xs)) (ho : okD 60 (.lst xs) = true) : dEqC (.ref k) (.lst xs) st = .ok (.bl true) st := by
  show ((rdC k >>= fun xs => pure (D.lst xs)) >>= fun x => pk (.lst xs) >>= fun y => dEq x y) st = _
  rw [M.bind_assoc, bind_ok (rdC_ok h), M.pure_bind]
  show (dEq (.lst xs) (.lst xs)) st = _
  rw [eq_same ho]
  rfl
theorem cut_last {α : Type} (xs : List α) (a : α) : cutL (xs ++ [a]) none (some (-1)) = xs := by
  unfold cutL
  rw [HT.sIx_none, List.drop_zero, Nat.sub_zero]
  have : HT.sIx (xs ++ [a]).length (xs ++ [a]).length (some (-1)) = xs.length := by
    show (if (-1 : Int) < 0 then ((-1 : Int) + ((xs ++ [a]).length : Int)).toNat else min (-1 : Int).toNat (xs ++ [a]).length) = xs.length
    rw [if_pos (by decide), List.length_append, List.length_singleton]
    omega
  rw [this, List.take_left']
  rfl
section
variable {m : Nat} {T : Mo}
end
theorem srt_sorted {xs : List D} (h : xs.Pairwise fun a b => PySem.W.dataLe false toPy a b = true) : srt xs = xs := List.mergeSort_of_pairwise h
theorem end1 : srt ((exT [[45, 48], [63, 45]]).map mD) = [mD [[45, 48], [43, 45]], mD [[45, 48], [45, 45]], mD [[45, 48], [48, 45]]] := by
  have e : (exT [[45, 48], [63, 45]]).map mD = [mD [[45, 48], [43, 45]], mD [[45, 48], [45, 45]], mD [[45, 48], [48, 45]]] := rfl
  rw [e]
  refine srt_sorted ?_
  simp only [List.pairwise_cons, List.mem_cons, List.not_mem_nil, or_false, forall_eq_or_imp, forall_eq, false_implies, implies_true, List.Pairwise.nil, and_true]
  exact ⟨⟨rfl, rfl⟩, rfl⟩
theorem end2 : (exT [[63, 63], [63, 63]]).length = 81 := by decide
theorem end3 : srt ((exT [[45]]).map mD) = [mD [[45]]] := List.mergeSort_singleton _
theorem mk_t4 (a b c d : D) : mkTup [a, b, c, d] = pure (.tup [a, b, c, d]) := if_pos (show (4 : Nat) ≤ 16777216 by decide)
theorem mul_t3 (a : D) : dMul (.tup [a]) (.int 3) = pure (.tup [a, a, a]) := by
  unfold dMul
  dsimp only
  rw [if_pos ⟨List.cons_ne_nil _ _, by decide, by decide, by simp⟩]
  rfl
theorem ok1 : MOk 4 1 [[45]] := ⟨rfl, by decide, by decide, by decide⟩
end My
namespace My
open PySem PySem.Spec PyProof.Rows L2 DL DH DX
open TL (joinL)
/-! k73: the desk's cells -/
section
variable {st s : Store} {q r i : Nat} {C f m : PySem.Str} {fs : List (PySem.Str × D)} {d v : D}
theorem ins_ok (h : st[q]? = some (.ins C fs)) : insM C (.ref q) st = .ok fs st := by
  show rdI C q st = _
  unfold rdI
  rw [h]
  exact if_pos (by simp)
theorem fld_ok (h : st[q]? = some (.ins C fs)) (hl : fs.lookup f = some d) : dFld C f (.ref q) st = .ok d st := by
  unfold dFld
  rw [DL.bind_ok (ins_ok h), hl]
  rfl
theorem recv_ok (h : st[q]? = some (.ins C fs)) (hl : (fs.lookup m).isNone = true) : recv C m (.ref q) st = .ok () st := by
  unfold recv
  rw [DL.bind_ok (ins_ok h), if_pos hl]
  rfl
theorem set_ok (h : st[q]? = some (.ins C fs)) (hl : fs.length < 1000) : setI C f (.ref q) v st = .ok () (st.set q (.ins C (DX.putD f v fs))) := by
  show (rdI C q >>= fun fs => if fs.length < 1000 then wrC q (.ins C (DX.putD f v fs)) else M.stuck) st = _
  have e : rdI C q st = .ok fs st := ins_ok h
  rw [DL.bind_ok e, if_pos hl]
  rfl
theorem pop_ok {xs : List D} {y : D} (h : st[q]? = some (.lst (xs ++ [y]))) : popC (.ref q) st = .ok y (st.set q (.lst xs)) := by
  show (rdC q >>= fun xs => match xs[xs.length - 1]? with
    | some y => wrC q (.lst xs.dropLast) >>= fun _ => pure y
    | none => M.stuck) st = _
  rw [DL.bind_ok (rdC_ok h)]
  have e : (xs ++ [y])[(xs ++ [y]).length - 1]? = some y := by simp
  rw [e, List.dropLast_concat]
  rfl
end
def deskC (now : D) (r : Nat) : Cell := .ins "Desk" [("now", now), ("past", .ref r)]
/-- the desk at q: what is so now, the calls -/
structure Dk (q r : Nat) (now : D) (ps : List D) (s : Store) : Prop where
  dq : s[q]? = some (deskC now r)
  dr : s[r]? = some (.lst ps)
  ne : q ≠ r
/-- all but the desk's cells stays -/
structure Go (q r : Nat) (st s : Store) : Prop where
  len : st.length ≤ s.length
  keep : ∀ j, j < st.length → j ≠ q → j ≠ r → s[j]? = st[j]?
theorem Go.refl {q r : Nat} {st : Store} : Go q r st st := ⟨Nat.le_refl _, fun _ _ _ _ => rfl⟩
theorem Go.trans {q r : Nat} {a b c : Store} (h : Go q r a b) (k : Go q r b c) : Go q r a c := ⟨Nat.le_trans h.len k.len, fun j hj h1 h2 => (k.keep j (Nat.lt_of_lt_of_le hj h.len) h1 h2).trans (h.keep j hj h1 h2)⟩
theorem Go.at {q r j : Nat} {st s : Store} {c : Cell} (h : Go q r st s) (hj : st[j]? = some c) (h1 : j ≠ q) (h2 : j ≠ r) : s[j]? = some c := (h.keep j (List.getElem?_eq_some_iff.mp hj).1 h1 h2).trans hj
theorem Go.set {q r : Nat} {a b : Store} (h : Go q r a b) (c : Cell) {j : Nat} (hj : j = q ∨ j = r ∨ a.length ≤ j) : Go q r a (b.set j c) :=
  ⟨by rw [List.length_set]; exact h.len, fun k hk h1 h2 => by rw [List.getElem?_set_ne (by rcases hj with z | z | z <;> omega)]; exact h.keep k hk h1 h2⟩
theorem Go.push {q r : Nat} {a b : Store} (h : Go q r a b) (c : Cell) : Go q r a (b ++ [c]) :=
  ⟨by rw [List.length_append]; exact Nat.le_trans h.len (Nat.le_add_right _ _), fun k hk h1 h2 => by rw [List.getElem?_append_left (Nat.lt_of_lt_of_le hk h.len)]; exact h.keep k hk h1 h2⟩
theorem Go.swap {q r r2 : Nat} {a b c : Store} (h : Go q r a b) (k : Go q r2 b c) (hr : a.length ≤ r2) : Go q r a c := ⟨Nat.le_trans h.len k.len, fun j hj h1 h2 => (k.keep j (Nat.lt_of_lt_of_le hj h.len) h1 (by omega)).trans (h.keep j hj h1 h2)⟩
theorem Dk.lt {q r : Nat} {now : D} {ps : List D} {s : Store} (h : Dk q r now ps s) : q < s.length ∧ r < s.length := ⟨(List.getElem?_eq_some_iff.mp h.dq).1, (List.getElem?_eq_some_iff.mp h.dr).1⟩
theorem Dk.past {q r : Nat} {now : D} {ps : List D} {s : Store} (h : Dk q r now ps s) : dFld "Desk" "past" (.ref q) s = .ok (.ref r) s := fld_ok h.dq rfl
theorem Dk.now {q r : Nat} {now : D} {ps : List D} {s : Store} (h : Dk q r now ps s) : dFld "Desk" "now" (.ref q) s = .ok now s := fld_ok h.dq rfl
theorem Dk.setNow {q r : Nat} {now v : D} {ps : List D} {s : Store} (h : Dk q r now ps s) : setI "Desk" "now" (.ref q) v s = .ok () (s.set q (deskC v r)) := set_ok h.dq (by decide : (2 : Nat) < 1000)
theorem Dk.putNow {q r : Nat} {now v : D} {ps : List D} {s : Store} (h : Dk q r now ps s) : Dk q r v ps (s.set q (deskC v r)) :=
  ⟨List.getElem?_set_self h.lt.1, by rw [List.getElem?_set_ne h.ne]; exact h.dr, h.ne⟩
theorem Dk.putPs {q r : Nat} {now : D} {ps ps' : List D} {s : Store} (h : Dk q r now ps s) : Dk q r now ps' (s.set r (.lst ps')) :=
  ⟨by rw [List.getElem?_set_ne (Ne.symm h.ne)]; exact h.dq, List.getElem?_set_self h.lt.2, h.ne⟩
def hD (h : List Nat) : D := .tup (h.map fun x => .int (x : Nat))
def nowD (T : Mo) (h : List Nat) : D := .tup [mD T, hD h]
theorem ge_c {n : Nat} (h : n < 60) : dGe (.int (n : Nat)) (.int 60) = pure (.bl false) := by
  rw [ii_ge]
  exact congrArg (fun b => pure (D.bl b)) (decide_eq_false (by omega))
/-- keep -/
theorem keep_tr {q r : Nat} {now later line : D} {ps : List D} {st : Store} (h : Dk q r now ps st) (hl : ps.length < 60) : Tr (m_Desk_keep (.ref q) later line) st fun d s => d = .non ∧ Dk q r later (ps ++ [.tup [now, line]]) s ∧ Go q r st s := by
  unfold m_Desk_keep mB_Desk_keep
  simp (config := {implicitDefEqProofs := false}) only [M.pure_bind, M.bind_assoc]
  refine tr_run h.past (tr_run (rd_len h.dr) ?_)
  rw [ge_c hl, M.pure_bind, b_as, M.pure_bind, if_neg Bool.false_ne_true]
  simp (config := {implicitDefEqProofs := false}) only [M.pure_bind, M.bind_assoc]
  refine tr_run h.past (tr_run (rd_isC h.dr) (tr_run h.now ?_))
  rw [mk_t2, M.pure_bind]
  refine tr_run (rd_app h.dr (by omega)) ?_
  have h2 : Dk q r now (ps ++ [.tup [now, line]]) (st.set r (.lst (ps ++ [.tup [now, line]]))) := h.putPs
  refine tr_run h2.setNow ?_
  exact tr_pure ⟨rfl, h2.putNow, (Go.refl.set _ (.inr (.inl rfl))).set _ (.inl rfl)⟩
end My
namespace My
open PySem PySem.Spec PyProof.Rows L2 DL DH DX
open TL (joinL)
/-! k73: hold, free, undo, know -/
theorem dig4 : digs 0 = [48] ∧ digs 1 = [49] ∧ digs 2 = [50] ∧ digs 3 = [51] := by decide +kernel
def lineL (a : List Nat) (x : Nat) : List Nat := a ++ [48 + x]
theorem dig_of {x : Nat} (h : x < 4) : digs (x : Nat) = [48 + x] := by
  obtain ⟨h0, h1, h2, h3⟩ := dig4
  match x, h with
  | 0, _ => exact h0
  | 1, _ => exact h1
  | 2, _ => exact h2
  | 3, _ => exact h3
theorem fmt_int {x : Nat} (h : x < 4) : dFmt (.int (x : Nat)) = pure (.str [48 + x]) := by
  show (if ((x : Nat) : Int).natAbs.log2 < 1900 ∧ sOk (digs (x : Nat)) = true then pure (.str (digs (x : Nat))) else M.stuck : M D) = _
  rw [dig_of h]
  match x, h with
  | 0, _ => exact if_pos (by decide)
  | 1, _ => exact if_pos (by decide)
  | 2, _ => exact if_pos (by decide)
  | 3, _ => exact if_pos (by decide)
theorem line_eq {a : List Nat} {x : Nat} (h : x < 4) (ha : ∀ y, y < 4 → sOk (a ++ [48 + y]) = true) (h0 : sOk a = true) : joinP [pure (.str a), dFmt (.int (x : Nat))] [] = pure (.str (lineL a x)) := by
  unfold joinP
  rw [M.pure_bind]
  show (if sOk ([] ++ a) = true then joinP [dFmt (.int (x : Nat))] ([] ++ a) else M.stuck : M D) = _
  rw [List.nil_append, if_pos h0]
  unfold joinP
  rw [fmt_int h, M.pure_bind]
  show (if sOk (a ++ [48 + x]) = true then joinP [] (a ++ [48 + x]) else M.stuck : M D) = _
  rw [if_pos (ha x h)]
  rfl
def holdS (x : Nat) : D := .str (lineL [104, 111, 108, 100, 32] x)
def freeS (x : Nat) : D := .str (lineL [102, 114, 101, 101, 32] x)
theorem hold_line {x : Nat} (h : x < 4) : joinP [pure (.str [104, 111, 108, 100, 32]), dFmt (.int (x : Nat))] [] = pure (holdS x) := line_eq h (fun y hy => match y, hy with
  | 0, _ => by decide
  | 1, _ => by decide
  | 2, _ => by decide
  | 3, _ => by decide) (by decide)
theorem free_line {x : Nat} (h : x < 4) : joinP [pure (.str [102, 114, 101, 101, 32]), dFmt (.int (x : Nat))] [] = pure (freeS x) := line_eq h (fun y hy => match y, hy with
  | 0, _ => by decide
  | 1, _ => by decide
  | 2, _ => by decide
  | 3, _ => by decide) (by decide)
theorem mD_len (T : Mo) : dLen (mD T) = pure (.int (T.length : Nat)) := by
  unfold mD
  rw [t_len, List.length_map]
theorem need_q {T : Mo} {x : Nat} (h : x < T.length) : m_need_quantity (mD T) (.int (x : Nat)) = pure .non := by
  unfold m_need_quantity mB_need_quantity
  simp (config := {implicitDefEqProofs := false}) only [M.pure_bind, M.bind_assoc, m3, mD_len, ii_sub]
  rw [within_eq (by rfl), M.pure_bind, b_as, M.pure_bind]
  have e : wi 0 ((T.length : Nat) - 1) (.int (x : Nat)) = true := by
    unfold wi
    simp
    omega
  rw [e]
  rfl
theorem in_no {x : Nat} : dIn (.int (x : Nat)) (hD []) = pure (.bl false) := by
  show (if okD 60 (.int (x : Nat)) = true ∧ okD 60 (.tup []) = true then pure (.bl (([] : List D).any fun y => eqd y (.int (x : Nat)))) else M.stuck : M D) = _
  rw [if_pos ⟨rfl, rfl⟩]
  rfl
theorem in_yes {x : Nat} : dNotIn (.int (x : Nat)) (hD [x]) = pure (.bl false) := by
  show (if okD 60 (.int (x : Nat)) = true ∧ okD 60 (.tup [.int (x : Nat)]) = true then pure (.bl (![D.int (x : Nat)].any fun y => eqd y (.int (x : Nat)))) else M.stuck : M D) = _
  rw [if_pos ⟨rfl, rfl⟩]
  have e : ([D.int (x : Nat)].any fun y => eqd y (.int (x : Nat))) = true := by
    simp [eqd]
  rw [e]
  rfl
theorem sort1 (x : Int) : dSort1 fLst (.tup [.int x]) = pure (.lst [.int x]) := f_l1 _
def e1 (T : Mo) (x : Nat) : D := .tup [nowD T [], holdS x]
def e2 (T : Mo) (x : Nat) : D := .tup [nowD T [x], freeS x]
theorem ix1 (a b : D) : dIndex (.tup [a, b]) (.int 1) = pure b := rfl
theorem ix0 (a b : D) : dIndex (.tup [a, b]) (.int 0) = pure a := rfl
theorem of_now (T : Mo) (h : List Nat) : ofO (dec2 (nowD T h)) = pure (mD T, hD h) := rfl
theorem len_h0 : dLen (hD []) = pure (.int 0) := rfl
theorem add_h0 (x : Int) : dAdd (hD []) (.tup [.int x]) = pure (.tup [.int x]) := rfl
theorem hold_tr {q r x : Nat} {T : Mo} {ps : List D} {st : Store} (h : Dk q r (nowD T []) ps st) (hx : x < T.length) (h2 : 2 ≤ T.length) (h4 : T.length ≤ 4) (hl : ps.length < 60) :
    Tr (m_Desk_hold (.ref q) (.int (x : Nat))) st fun d s => Dk q r (nowD T [x]) (ps ++ [e1 T x]) s ∧ Go q r st s := by
  unfold m_Desk_hold mB_Desk_hold bOr
  simp (config := {implicitDefEqProofs := false}) only [M.pure_bind, M.bind_assoc]
  refine tr_run h.now ?_
  rw [of_now, M.pure_bind]
  dsimp only
  rw [m2, need_q hx, M.pure_bind, in_no, M.pure_bind, b_as, M.pure_bind, if_neg Bool.false_ne_true, len_h0, M.pure_bind, ii_add, M.pure_bind, mD_len, M.pure_bind, eq_ii, M.pure_bind, b_as, M.pure_bind, decide_eq_false (by omega), if_neg Bool.false_ne_true]
  simp (config := {implicitDefEqProofs := false}) only [M.pure_bind, M.bind_assoc]
  refine tr_run (recv_ok h.dq rfl) ?_
  rw [mk_t1, M.pure_bind, add_h0, M.pure_bind, sort1, M.pure_bind, tup_lst, M.pure_bind, mk_t2, M.pure_bind, hold_line (by omega), M.pure_bind, m3]
  refine tr_then (keep_tr h hl) fun d s ⟨_, hd, hg⟩ => ?_
  refine tr_run hd.now ?_
  exact tr_pure ⟨hd, hg⟩
theorem free_tr {q r x : Nat} {T : Mo} {ps : List D} {st : Store} (h : Dk q r (nowD T [x]) ps st) (hx : x < T.length) (h4 : T.length ≤ 4) (hl : ps.length < 60) :
    Tr (m_Desk_free (.ref q) (.int (x : Nat))) st fun d s => Dk q r (nowD T []) (ps ++ [e2 T x]) s ∧ Go q r st s := by
  unfold m_Desk_free mB_Desk_free
  simp (config := {implicitDefEqProofs := false}) only [M.pure_bind, M.bind_assoc]
  refine tr_run h.now ?_
  rw [of_now, M.pure_bind]
  dsimp only
  rw [m2, need_q hx, M.pure_bind, in_yes, M.pure_bind, b_as, M.pure_bind, if_neg Bool.false_ne_true]
  simp (config := {implicitDefEqProofs := false}) only [M.pure_bind, M.bind_assoc]
  refine tr_run (recv_ok h.dq rfl) ?_
  rw [show asW (hD [x]) = pure [.int (x : Nat)] from rfl, M.pure_bind]
  have ec : compM dec1 (fun p477 => dNe p477 (.int (x : Nat)) >>= fun a => asB a) (fun p477 => pure p477) [.int (x : Nat)] = pure [] := by
    show (dNe (.int (x : Nat)) (.int (x : Nat)) >>= asB >>= fun b => if b = true then _ else pure [] : M (List D)) = _
    rw [ne_same (ok_int _), M.pure_bind, b_as, M.pure_bind]
    rfl
  first
    | rw [ec]
    | (refine tr_eq (congrArg (fun z => z >>= _) (show compM dec1 _ _ _ = pure [] from ec)) ?_)
  rw [M.pure_bind, f_l0, M.pure_bind, tup_lst, M.pure_bind, mk_t2, M.pure_bind, free_line (by omega), M.pure_bind, m3]
  refine tr_then (keep_tr h hl) fun d s ⟨_, hd, hg⟩ => ?_
  refine tr_run hd.now ?_
  exact tr_pure ⟨hd, hg⟩
end My
namespace My
open PySem PySem.Spec PyProof.Rows L2 DL DH DX
open TL (joinL)
/-! k73: taking back, knowing, attempts -/
/-- it ends with this error -/
structure Xr {α : Type} (m : M α) (st : Store) (e : DL.Ex) (P : Store → Prop) : Prop where
  ex : ∃ s, m st = .exc e s ∧ P s
section
variable {α β : Type} {m : M α} {f : α → M β} {st s : Store} {a : α} {e : DL.Ex} {P : Store → Prop} {R : Store → Prop}
theorem xr_run (h : m st = .ok a s) (k : Xr (f a) s e P) : Xr (m >>= f) st e P := by
  obtain ⟨s2, h2, p⟩ := k.ex
  exact ⟨s2, by rw [DL.bind_ok h]; exact h2, p⟩
theorem xr_then {Q : α → Store → Prop} (h : Tr m st Q) (k : ∀ a s, Q a s → Xr (f a) s e P) : Xr (m >>= f) st e P := by
  obtain ⟨a, s, h1, q⟩ := h.ex
  exact xr_run h1 (k a s q)
theorem xr_bind (h : Xr m st e P) : Xr (m >>= f) st e P := by
  obtain ⟨s2, h2, p⟩ := h.ex
  refine ⟨s2, ?_, p⟩
  show (match m st with | .ok a s' => f a s' | .exc e s' => .exc e s' | .stuck => .stuck) = _
  rw [h2]
theorem xr_throw (p : P st) : Xr (M.throw e : M α) st e P := ⟨st, rfl, p⟩
theorem xr_eq {m' : M α} (h : m = m') (k : Xr m' st e P) : Xr m st e P := by rw [h]; exact k
theorem xr_mono (h : Xr m st e P) (k : ∀ s, P s → R s) : Xr m st e R := by
  obtain ⟨s, h1, p⟩ := h.ex
  exact ⟨s, h1, k s p⟩
end
def ent (p : D × D) : D := .tup [p.1, p.2]
def Eok (es : List (D × D)) : Prop := okDs 59 (es.map ent) = true
theorem undo_tr {q r : Nat} {now : D} {es : List (D × D)} {b l : D} {st : Store} (h : Dk q r now ((es ++ [(b, l)]).map ent) st) (ho : Eok (es ++ [(b, l)])) :
    Tr (m_Desk_undo (.ref q)) st fun _ s => Dk q r b (es.map ent) s ∧ Go q r st s := by
  unfold m_Desk_undo mB_Desk_undo
  simp (config := {implicitDefEqProofs := false}) only [M.pure_bind, M.bind_assoc]
  refine tr_run h.past ?_
  rw [f_l0, M.pure_bind]
  refine tr_run (rd_nil h.dr ho) ?_
  rw [b_as, M.pure_bind, show ((es ++ [(b, l)]).map ent).isEmpty = false from by simp, if_neg Bool.false_ne_true]
  simp (config := {implicitDefEqProofs := false}) only [M.pure_bind, M.bind_assoc]
  have hr : st[r]? = some (.lst (es.map ent ++ [ent (b, l)])) := by
    have z := h.dr
    rw [List.map_append] at z
    exact z
  refine tr_run h.past (tr_run (pop_ok hr) ?_)
  rw [show dIndex (ent (b, l)) (.int 0) = pure b from rfl, M.pure_bind]
  have h2 : Dk q r now (es.map ent) (st.set r (.lst (es.map ent))) := h.putPs
  refine tr_run h2.setNow ?_
  exact tr_pure ⟨h2.putNow, (Go.refl.set _ (.inr (.inl rfl))).set _ (.inl rfl)⟩
theorem undo_xr {q r : Nat} {now : D} {st : Store} (h : Dk q r now [] st) {P : Store → Prop} (hp : P st) : Xr (m_Desk_undo (.ref q)) st ⟨"NothingToUndo", []⟩ P := by
  unfold m_Desk_undo mB_Desk_undo
  simp (config := {implicitDefEqProofs := false}) only [M.pure_bind, M.bind_assoc]
  refine xr_run h.past ?_
  rw [f_l0, M.pure_bind]
  refine xr_run (rd_nil h.dr (by rfl)) ?_
  rw [b_as, M.pure_bind]
  exact xr_bind (xr_bind (xr_throw hp))
theorem place9 (T : Mo) (h4 : T.length ≤ 4) : m_is_place (mD T) (.tup [.int 9, .int 9]) = pure (.bl false) := by
  unfold m_is_place mB_is_place bOr
  simp (config := {implicitDefEqProofs := false}) only [M.pure_bind, M.bind_assoc, isi_tup, b_as, t_len]
  rw [show (!true) = false from rfl, if_neg Bool.false_ne_true]
  simp (config := {implicitDefEqProofs := false}) only [M.pure_bind, M.bind_assoc]
  rw [show dNe (.int (([D.int 9, D.int 9] : List D).length : Nat)) (.int 2) = pure (.bl false) from rfl, M.pure_bind, b_as, M.pure_bind, if_neg Bool.false_ne_true, w_tup, M.pure_bind]
  have ec : compM dec1 (fun p => pure true) (fun p => dLen (mD T) >>= fun x => dSub x (.int 1) >>= fun y => mk3 m_is_within [p, .int 0, y]) [.int 9, .int 9] = pure [.bl false, .bl false] := by
    have e9 : (dLen (mD T) >>= fun x => dSub x (.int 1) >>= fun y => mk3 m_is_within [.int 9, .int 0, y]) = pure (.bl false) := by
      rw [mD_len, M.pure_bind, ii_sub, M.pure_bind, m3, within_eq (by rfl)]
      have e : wi 0 ((T.length : Nat) - 1) (.int 9) = false := by
        unfold wi
        simp
        omega
      rw [e]
    refine (comp_pure (t := fun _ => true) (e := fun _ => .bl false) (fun d hd => ⟨d, rfl, rfl, fun _ => ?_⟩)).trans rfl
    have ed : d = .int 9 := by simpa using hd
    subst ed
    exact e9
  first
    | rw [ec]
    | (refine (congrArg (fun z => z >>= _) (show compM dec1 _ _ _ = pure [.bl false, .bl false] from ec)).trans ?_)
  rfl
theorem know_xr {q r : Nat} {T : Mo} {h : List Nat} {ps : List D} {st : Store} (hd : Dk q r (nowD T h) ps st) (h4 : T.length ≤ 4) {P : Store → Prop} (hp : P st) : Xr (m_Desk_know (.ref q) (.tup [.int 9, .int 9]) (.str [43])) st ⟨"InvalidPlace", []⟩ P := by
  unfold m_Desk_know mB_Desk_know
  simp (config := {implicitDefEqProofs := false}) only [M.pure_bind, M.bind_assoc]
  refine xr_run hd.now ?_
  rw [of_now, M.pure_bind]
  dsimp only
  rw [m2]
  refine xr_bind ?_
  unfold m_need_place mB_need_place
  simp (config := {implicitDefEqProofs := false}) only [M.pure_bind, M.bind_assoc, m2]
  rw [place9 T h4, M.pure_bind, b_as, M.pure_bind]
  exact xr_bind (xr_bind (xr_throw hp))
theorem len_run {q r : Nat} {now : D} {ps : List D} {st : Store} (h : Dk q r now ps st) (hl : ps.length < 1000) {β : Type} {f : D → M β} : (insM "Desk" (.ref q) >>= fun _ => nox (mk1 m_Desk___len__ [.ref q]) >>= fun y => asLenI y >>= f) st = f (.int (ps.length : Nat)) st := by
  rw [DL.bind_ok (ins_ok h.dq)]
  have e : m_Desk___len__ (.ref q) st = .ok (.int (ps.length : Nat)) st := by
    unfold m_Desk___len__ mB_Desk___len__
    simp (config := {implicitDefEqProofs := false}) only [M.pure_bind, M.bind_assoc]
    rw [DL.bind_ok h.past, DL.bind_ok (rd_len h.dr)]
    rfl
  have e2 : nox (mk1 m_Desk___len__ [.ref q]) st = .ok (.int (ps.length : Nat)) st := by
    unfold nox
    rw [m1, e]
  rw [DL.bind_ok e2]
  have h62 : ((ps.length : Nat) : Int) < 2 ^ 62 := by
    have : (1000 : Int) ≤ 2 ^ 62 := by decide
    omega
  have e3 : asLenI (.int (ps.length : Nat)) = pure (.int (ps.length : Nat)) := by
    unfold asLenI
    dsimp only
    rw [if_pos ⟨by omega, h62⟩]
  rw [e3, M.pure_bind]
end My
namespace My
open PySem PySem.Spec PyProof.Rows L2 DL DH DX
open TL (joinL)
/-! k73: attempts -/
structure Tk (n q r2 : Nat) (now : D) (ps : List D) (s : Store) : Prop where
  tn : s[n]? = some (Cell.ins "Trial" [("desk", .ref q), ("now", now), ("past", .ref r2)])
  tr : s[r2]? = some (.lst ps)
theorem list_ref {st : Store} {k : Nat} {xs : List D} (h : st[k]? = some (.lst xs)) (hl : xs.length ≤ 16777216) : dList newC (.ref k) st = .ok (.ref st.length) (st ++ [.lst xs]) := by
  show (rdC k >>= newC) st = _
  rw [DL.bind_ok (rdC_ok h)]
  exact n_cel hl
theorem Dk.gr {q r : Nat} {now : D} {ps : List D} {st s : Store} (h : Dk q r now ps st) (g : Gr st s) : Dk q r now ps s := ⟨g.at h.dq, g.at h.dr, h.ne⟩
theorem trial_tr {q r : Nat} {now : D} {ps : List D} {st : Store} (h : Dk q r now ps st) (hl : ps.length ≤ 1000) :
    Tr (makeM "Trial" (mk2 m_Trial_init) [.ref q]) st fun t s => t = .ref st.length ∧ Tk st.length q (st.length + 1) now ps s ∧ Gr st s := by
  unfold makeM
  refine tr_run (show newI "Trial" st = .ok (.ref st.length) (st ++ [Cell.ins "Trial" []]) from rfl) ?_
  rw [m2]
  unfold m_Trial_init mB_Trial_init
  simp (config := {implicitDefEqProofs := false}) only [M.pure_bind, M.bind_assoc]
  have g1 : Gr st (st ++ [Cell.ins "Trial" []]) := Gr.push _
  have n1 : (st ++ [Cell.ins "Trial" []])[st.length]? = some (Cell.ins "Trial" []) := List.getElem?_concat_length
  refine tr_run (set_ok n1 (by decide)) ?_
  have g2 : Gr st ((st ++ [Cell.ins "Trial" []]).set st.length (Cell.ins "Trial" [("desk", .ref q)])) := g1.set (Nat.le_refl _) _
  have l2 : ((st ++ [Cell.ins "Trial" []]).set st.length (Cell.ins "Trial" [("desk", .ref q)])).length = st.length + 1 := by rw [List.length_set, List.length_append, List.length_singleton]
  have n2 : ((st ++ [Cell.ins "Trial" []]).set st.length (Cell.ins "Trial" [("desk", .ref q)]))[st.length]? = some (Cell.ins "Trial" [("desk", .ref q)]) := List.getElem?_set_self (by rw [List.length_append, List.length_singleton]; omega)
  refine tr_run (h.gr g2).now (tr_run (set_ok n2 (by decide : (1 : Nat) < 1000)) ?_)
  generalize hs2 : ((st ++ [Cell.ins "Trial" []]).set st.length (Cell.ins "Trial" [("desk", .ref q)])) = s2 at *
  have g3 : Gr st (s2.set st.length (Cell.ins "Trial" [("desk", .ref q), ("now", now)])) := g2.set (Nat.le_refl _) _
  have l3 : (s2.set st.length (Cell.ins "Trial" [("desk", .ref q), ("now", now)])).length = st.length + 1 := by rw [List.length_set, l2]
  have n3 : (s2.set st.length (Cell.ins "Trial" [("desk", .ref q), ("now", now)]))[st.length]? = some (Cell.ins "Trial" [("desk", .ref q), ("now", now)]) := List.getElem?_set_self (by omega)
  refine tr_run (h.gr g3).past (tr_run (list_ref (h.gr g3).dr (by omega)) ?_)
  change Tr (setI "Trial" "past" (.ref st.length) (.ref (s2.set st.length (Cell.ins "Trial" [("desk", .ref q), ("now", now)])).length) >>= _) ((s2.set st.length (Cell.ins "Trial" [("desk", .ref q), ("now", now)])) ++ [Cell.lst ps]) _
  rw [l3]
  generalize hs3 : (s2.set st.length (Cell.ins "Trial" [("desk", .ref q), ("now", now)])) = s3 at *
  have n4 : (s3 ++ [Cell.lst ps])[st.length]? = some (Cell.ins "Trial" [("desk", .ref q), ("now", now)]) := by rw [List.getElem?_append_left (by omega)]; exact n3
  refine tr_run (set_ok n4 (by decide : (2 : Nat) < 1000)) ?_
  have g4 : Gr st (s3 ++ [Cell.lst ps]) := g3.trans (Gr.push _)
  rw [show retM (Fl.next () : Fl Unit Empty) = pure .non from rfl, M.pure_bind]
  refine tr_run (show isNon .non _ = .ok () _ from rfl) ?_
  refine tr_pure ⟨rfl, ⟨List.getElem?_set_self (by rw [List.length_append, List.length_singleton]; omega), ?_⟩, g4.set (Nat.le_refl _) _⟩
  rw [List.getElem?_set_ne (by omega), ← l3]
  exact List.getElem?_concat_length
theorem exit_no (n : Nat) : mk4 m_Trial___exit__ [.ref n, .non, .non, .non] = pure .non := rfl
theorem exit_run {n q r r2 : Nat} {now now' : D} {ps : List D} {c : PySem.Str} {s : Store} (t : Tk n q r2 now ps s) (hq : s[q]? = some (deskC now' r)) (hn : n ≠ q) (hr2 : r2 ≠ q) :
    ∃ s', mk4 m_Trial___exit__ [.ref n, .fn c, .non, .non] s = .ok .non s' ∧ Dk q r2 now ps s' ∧ (∀ j, j ≠ q → s'[j]? = s[j]?) ∧ s'.length = s.length := by
  have hlt : q < s.length := (List.getElem?_eq_some_iff.mp hq).1
  have q1 : (s.set q (deskC now r))[q]? = some (deskC now r) := List.getElem?_set_self hlt
  have t1 : (s.set q (deskC now r))[n]? = some (Cell.ins "Trial" [("desk", .ref q), ("now", now), ("past", .ref r2)]) := by rw [List.getElem?_set_ne (Ne.symm hn)]; exact t.tn
  refine ⟨((s.set q (deskC now r)).set q (deskC now r2)), ?_, ⟨List.getElem?_set_self (by rw [List.length_set]; exact hlt), by rw [List.getElem?_set_ne (Ne.symm hr2), List.getElem?_set_ne (Ne.symm hr2)]; exact t.tr, Ne.symm hr2⟩, fun j hj => by rw [List.getElem?_set_ne (Ne.symm hj), List.getElem?_set_ne (Ne.symm hj)], by rw [List.length_set, List.length_set]⟩
  show m_Trial___exit__ (.ref n) (.fn c) .non .non s = _
  unfold m_Trial___exit__ mB_Trial___exit__
  simp (config := {implicitDefEqProofs := false}) only [M.pure_bind, M.bind_assoc]
  rw [show dIsNot (.fn c) .non = pure (.bl true) from rfl, M.pure_bind, b_as, M.pure_bind, if_pos rfl]
  simp (config := {implicitDefEqProofs := false}) only [M.pure_bind, M.bind_assoc]
  rw [DL.bind_ok (fld_ok t.tn (d := now) rfl), DL.bind_ok (fld_ok t.tn (d := .ref q) rfl), DL.bind_ok (set_ok hq (by decide : (2 : Nat) < 1000))]
  show (dFld "Trial" "past" (.ref n) >>= _) (s.set q (deskC now r)) = _
  rw [DL.bind_ok (fld_ok t1 (d := .ref r2) rfl), DL.bind_ok (fld_ok t1 (d := .ref q) rfl), DL.bind_ok (set_ok q1 (by decide : (2 : Nat) < 1000))]
  rfl
theorem enter_run {n q r2 : Nat} {now : D} {ps : List D} {s : Store} (t : Tk n q r2 now ps s) : nox (mk1 m_Trial___enter__ [.ref n]) s = .ok (.ref q) s := by
  have e : m_Trial___enter__ (.ref n) s = .ok (.ref q) s := by
    unfold m_Trial___enter__ mB_Trial___enter__
    simp (config := {implicitDefEqProofs := false}) only [M.pure_bind, M.bind_assoc]
    rw [DL.bind_ok (fld_ok t.tn (d := .ref q) rfl)]
    rfl
  unfold nox
  rw [m1, e]
abbrev attW (mb : D → M D) (x : D) : M D := attM (mk2 m_Trial_init) (mk1 m_Trial___enter__) (mk4 m_Trial___exit__) mb x
theorem att_ok {q r : Nat} {now : D} {ps : List D} {st : Store} {mb : D → M D} {P : D → Store → Prop} (h : Dk q r now ps st) (hl : ps.length ≤ 1000) (hb : ∀ s, Gr st s → Dk q r now ps s → Tr (mb (.ref q)) s P) : Tr (attW mb (.ref q)) st P := by
  unfold attW attM
  refine tr_then (trial_tr h hl) fun t s ⟨e, tk, g⟩ => ?_
  subst e
  refine tr_run (ins_ok tk.tn) (tr_run (enter_run tk) ?_)
  obtain ⟨d, s', e, p⟩ := (hb s g (h.gr g)).ex
  refine ⟨d, s', ?_, p⟩
  unfold withM
  rw [e, exit_no]
  rfl
theorem att_xr {q r : Nat} {now : D} {ps : List D} {st : Store} {mb : D → M D} {c : PySem.Str} (h : Dk q r now ps st) (hl : ps.length ≤ 1000)
    (hb : ∀ s, Gr st s → Dk q r now ps s → Xr (mb (.ref q)) s ⟨c, []⟩ fun s' => Go q r s s' ∧ ∃ now' r', s'[q]? = some (deskC now' r')) :
    Xr (attW mb (.ref q)) st ⟨c, []⟩ fun s' => Dk q (st.length + 1) now ps s' ∧ Go q r st s' := by
  unfold attW attM
  refine xr_then (trial_tr h hl) fun t s ⟨e, tk, g⟩ => ?_
  subst e
  refine xr_run (ins_ok tk.tn) (xr_run (enter_run tk) ?_)
  obtain ⟨s', e, go, now', r', hq⟩ := (hb s g (h.gr g)).ex
  have hlt := h.lt
  have tk' : Tk st.length q (st.length + 1) now ps s' := ⟨go.at tk.tn (by omega) (by omega), go.at tk.tr (by omega) (by omega)⟩
  obtain ⟨s2, e2, hd, hk, hlen⟩ := exit_run (c := c) tk' hq (by omega) (by omega)
  refine ⟨s2, ?_, hd, ⟨by rw [hlen]; exact Nat.le_trans g.len go.len, fun j hj h1 h2 => ?_⟩⟩
  · unfold withM
    rw [e]
    show (if ([] : List (PySem.Str × D)).isEmpty = true then (match mk4 m_Trial___exit__ [.ref st.length, .fn c, .non, .non] s' with
      | .ok .non st2 => DL.R.exc ⟨c, []⟩ st2
      | _ => .stuck) else .stuck : DL.R D) = _
    rw [if_pos (show ([] : List (PySem.Str × D)).isEmpty = true from rfl), e2]
  · rw [hk j h1, go.keep j (Nat.lt_of_lt_of_le hj g.len) h1 h2, g.keep j hj]
end My
namespace My
open PySem PySem.Spec PyProof.Rows L2 DL DH DX
open TL (joinL)
/-! k73: good calls and bad ones -/
def h1 (T : Mo) (x : Nat) : D × D := (nowD T [], holdS x)
def h2 (T : Mo) (x : Nat) : D × D := (nowD T [x], freeS x)
def En (T : Mo) (es : List (D × D)) : Prop := ∀ p ∈ es, ∃ x, p = h1 T x ∨ p = h2 T x
theorem now_ok {n : Nat} (T : Mo) (h : List Nat) : okD (n + 2) (nowD T h) = true := ok_tup.mpr fun d hd => by
  rcases List.mem_cons.mp hd with rfl | hd
  · exact mD_ok T
  · rw [List.mem_singleton.mp hd]
    exact ok_tup.mpr fun e he => by
      obtain ⟨i, _, rfl⟩ := List.mem_map.mp he
      exact ok_int _
theorem ent_ok (T : Mo) (h : List Nat) (cs : List Nat) : okD 59 (ent (nowD T h, .str cs)) = true := ok_tup.mpr fun d hd => by
  rcases List.mem_cons.mp hd with rfl | hd
  · exact now_ok (n := 56) T h
  · rw [List.mem_singleton.mp hd]
    exact ok_str _
theorem En.ok {T : Mo} {es : List (D × D)} (h : En T es) : Eok es := okDs_iff.mpr fun d hd => by
  obtain ⟨p, hp, rfl⟩ := List.mem_map.mp hd
  obtain ⟨x, rfl | rfl⟩ := h p hp
  · exact ent_ok T _ _
  · exact ent_ok T _ _
theorem En.snoc {T : Mo} {es : List (D × D)} {p : D × D} (h : En T es) (hp : ∃ x, p = h1 T x ∨ p = h2 T x) : En T (es ++ [p]) := fun y hy => by
  rcases List.mem_append.mp hy with hy | hy
  · exact h y hy
  · rw [List.mem_singleton.mp hy]
    exact hp
theorem good_tr {q r x : Nat} {T : Mo} {es : List (D × D)} {st : Store} (h : Dk q r (nowD T []) (es.map ent) st) (he : En T es) (hx : x < T.length) (ht2 : 2 ≤ T.length) (h4 : T.length ≤ 4) (hl : es.length < 58) :
    Tr (m__law_good (.ref q) (.int (x : Nat))) st fun d s => d = .int ((es.length + 2 : Nat) : Int) ∧ Dk q r (nowD T []) ((es ++ [h1 T x, h2 T x]).map ent) s ∧ Go q r st s := by
  unfold m__law_good mB__law_good
  simp (config := {implicitDefEqProofs := false}) only [M.pure_bind, M.bind_assoc]
  have hm : (es.map ent).length < 60 := by rw [List.length_map]; omega
  refine tr_run (recv_ok h.dq rfl) ?_
  rw [m2]
  refine tr_then (hold_tr h hx ht2 h4 hm) fun _ s1 ⟨d1, g1⟩ => ?_
  refine tr_run (recv_ok d1.dq rfl) ?_
  rw [m1]
  have d1' : Dk q r (nowD T [x]) ((es ++ [h1 T x]).map ent) s1 := by
    rw [List.map_append]
    exact d1
  refine tr_then (undo_tr d1' (he.snoc ⟨x, .inl rfl⟩).ok) fun _ s2 ⟨d2, g2⟩ => ?_
  refine tr_run (recv_ok d2.dq rfl) ?_
  rw [m2]
  refine tr_then (hold_tr d2 hx ht2 h4 hm) fun _ s3 ⟨d3, g3⟩ => ?_
  refine tr_run (recv_ok d3.dq rfl) ?_
  refine tr_then (free_tr d3 hx h4 (by rw [List.length_append, List.length_singleton, List.length_map]; omega)) fun _ s4 ⟨d4, g4⟩ => ?_
  have e : es.map ent ++ [e1 T x] ++ [e2 T x] = (es ++ [h1 T x, h2 T x]).map ent := by
    rw [List.map_append, List.append_assoc]
    rfl
  rw [e] at d4
  have el : ((es ++ [h1 T x, h2 T x]).map ent).length = es.length + 2 := by rw [List.length_map, List.length_append]; rfl
  have r4 := len_run d4 (by omega) (f := fun y => pure y)
  rw [el] at r4
  refine ⟨⟨_, _, ?_, rfl, d4, ((g1.trans g2).trans g3).trans g4⟩⟩
  rw [len_run d4 (by omega), el]
  rfl
/-- 99 undos run out -/
theorem undos_xr {q r : Nat} {T : Mo} {now : D} {P : Store → Prop} {body : Unit → D → M (Fl Unit Unit)} (hb : ∀ d, body () d = recv "Desk" "undo" (.ref q) >>= fun _ => m_Desk_undo (.ref q) >>= fun _ => pure (.next ())) : ∀ (es : List (D × D)) {now : D} {ds : List D} {st : Store}, es.length < ds.length → Dk q r now (es.map ent) st → En T es → (∀ s now', Go q r st s → s[q]? = some (deskC now' r) → P s) → Xr (loopM dec1 body ds ()) st ⟨"NothingToUndo", []⟩ P := by
  intro es
  induction hn : es.length generalizing es with
  | zero =>
    intro now ds st hl h he hp
    have : es = [] := List.length_eq_zero_iff.mp hn
    subst this
    match ds, hl with
    | d :: ds, _ =>
      show Xr (body () d >>= _) st _ P
      rw [hb]
      refine xr_bind (xr_run (recv_ok h.dq rfl) (xr_bind (undo_xr h (hp st now Go.refl h.dq))))
  | succ n ih =>
    intro now ds st hl h he hp
    obtain ⟨es', p, rfl⟩ : ∃ es' p, es = es' ++ [p] := ⟨es.dropLast, es.getLast (by intro z; rw [z] at hn; cases hn), (List.dropLast_concat_getLast _).symm⟩
    have hn' : es'.length = n := by
      rw [List.length_append, List.length_singleton] at hn
      omega
    match ds, hl with
    | d :: ds, hl =>
      show Xr (body () d >>= _) st _ P
      rw [hb]
      simp (config := {implicitDefEqProofs := false}) only [M.pure_bind, M.bind_assoc]
      refine xr_run (recv_ok h.dq rfl) (xr_then (undo_tr (b := p.1) (l := p.2) h he.ok) fun _ s ⟨hd, hg⟩ => ?_)
      refine ih es' hn' (by rw [List.length_cons] at hl; omega) hd (fun y hy => he y (List.mem_append_left _ hy)) fun s' now' g' e' => hp s' now' (hg.trans g') e'
end My
namespace My
open PySem PySem.Spec PyProof.Rows L2 DL DH DX
open TL (joinL)
/-! k73: calls that fail, and what is left after -/
def badC (w : Nat) : PySem.Str := if w = 2 then "NothingToUndo" else "InvalidPlace"
theorem tabC_ok {st : Store} {j : Nat} {x q : PySem.Str} (h : st[j]? = some (.tab x q)) : tabC j x q st = .ok () st := by
  unfold tabC
  rw [h]
  exact if_pos (by simp)
theorem Gr.go {q r : Nat} {a b : Store} (h : Gr a b) : Go q r a b := ⟨h.len, fun j hj _ _ => h.keep j hj⟩
theorem att_good {q r x : Nat} {T : Mo} {es : List (D × D)} {st : Store} (h : Dk q r (nowD T []) (es.map ent) st) (he : En T es) (hx : x < T.length) (ht2 : 2 ≤ T.length) (h4 : T.length ≤ 4) (hl : es.length < 58) :
    Tr (attW (fun d => m__law_good d (.int (x : Nat))) (.ref q)) st fun d s => d = .int ((es.length + 2 : Nat) : Int) ∧ Dk q r (nowD T []) ((es ++ [h1 T x, h2 T x]).map ent) s ∧ Go q r st s :=
  att_ok h (by rw [List.length_map]; omega) fun s g d => by
    obtain ⟨a, s', e, p1, p2, p3⟩ := (good_tr d he hx ht2 h4 hl).ex
    exact ⟨a, s', e, p1, p2, g.go.trans p3⟩
theorem bad_xr {q r x w : Nat} {T : Mo} {es : List (D × D)} {st : Store} (h : Dk q r (nowD T []) (es.map ent) st) (he : En T es) (hx : x < T.length) (ht2 : 2 ≤ T.length) (h4 : T.length ≤ 4) (hl : es.length < 58) (hw : w < 3)
    (ht : st[0]? = some (.tab "_law_bad" (lamQ "_law_bad"))) (hq : q ≠ 0) (hr : r ≠ 0) :
    Xr (m__law_bad (.ref q) (.int (x : Nat)) (.int (w : Nat))) st ⟨badC w, []⟩ fun s' => Go q r st s' ∧ ∃ now' r', s'[q]? = some (deskC now' r') := by
  unfold m__law_bad mB__law_bad
  simp (config := {implicitDefEqProofs := false}) only [M.pure_bind, M.bind_assoc]
  have hm : (es.map ent).length < 60 := by rw [List.length_map]; omega
  rcases (show w = 0 ∨ w = 1 ∨ w = 2 by omega) with rfl | rfl | rfl
  · rw [show dEq (.int ((0 : Nat) : Int)) (.int 1) = pure (.bl false) from rfl, M.pure_bind, b_as, M.pure_bind, if_neg Bool.false_ne_true]
    simp (config := {implicitDefEqProofs := false}) only [M.pure_bind, M.bind_assoc]
    refine xr_run (recv_ok h.dq rfl) ?_
    rw [m2]
    refine xr_then (hold_tr h hx ht2 h4 hm) fun _ s1 ⟨d1, g1⟩ => ?_
    rw [show dEq (.int ((0 : Nat) : Int)) (.int 2) = pure (.bl false) from rfl]
    simp (config := {implicitDefEqProofs := false}) only [thenM, M.pure_bind, M.bind_assoc, b_as, if_neg Bool.false_ne_true]
    refine xr_run (recv_ok d1.dq rfl) ?_
    rw [mk_t2, M.pure_bind, m3]
    exact xr_bind (know_xr d1 h4 ⟨g1, _, _, d1.dq⟩)
  · rw [show dEq (.int ((1 : Nat) : Int)) (.int 1) = pure (.bl true) from rfl, M.pure_bind, b_as, M.pure_bind, if_pos rfl]
    simp (config := {implicitDefEqProofs := false}) only [M.pure_bind, M.bind_assoc, m2]
    refine xr_run (recv_ok h.dq rfl) (xr_run (tabC_ok ht) ?_)
    refine xr_then (att_good h he hx ht2 h4 hl) fun _ s1 ⟨_, d1, g1⟩ => ?_
    rw [show dEq (.int ((1 : Nat) : Int)) (.int 2) = pure (.bl false) from rfl]
    simp (config := {implicitDefEqProofs := false}) only [thenM, M.pure_bind, M.bind_assoc, b_as, if_neg Bool.false_ne_true]
    refine xr_run (recv_ok d1.dq rfl) ?_
    rw [mk_t2, M.pure_bind, m3]
    exact xr_bind (know_xr d1 h4 ⟨g1, _, _, d1.dq⟩)
  · rw [show dEq (.int ((2 : Nat) : Int)) (.int 1) = pure (.bl false) from rfl, M.pure_bind, b_as, M.pure_bind, if_neg Bool.false_ne_true]
    simp (config := {implicitDefEqProofs := false}) only [M.pure_bind, M.bind_assoc]
    refine xr_run (recv_ok h.dq rfl) ?_
    rw [m2]
    refine xr_then (hold_tr h hx ht2 h4 hm) fun _ s1 ⟨d1, g1⟩ => ?_
    rw [show dEq (.int ((2 : Nat) : Int)) (.int 2) = pure (.bl true) from rfl, rng_1 (by decide)]
    simp (config := {implicitDefEqProofs := false}) only [thenM, M.pure_bind, M.bind_assoc, b_as, if_pos, m1]
    have d1' : Dk q r (nowD T [x]) ((es ++ [h1 T x]).map ent) s1 := by
      rw [List.map_append]
      exact d1
    refine xr_bind (undos_xr (T := T) (now := .non) (fun _ => rfl) (es ++ [h1 T x]) ?_ d1' (he.snoc ⟨x, .inl rfl⟩) fun s now' g e => ⟨g1.trans g, now', r, e⟩)
    rw [List.length_append, List.length_singleton, show (upFrom 0 (99 : Int).toNat).length = 99 from by decide]
    omega
/-- the word of a failing attempt; the desk is as it was -/
def wordS (w : Nat) : D := .str (if w = 2 then sUndo else sPlace)
theorem attempted_run {q r x w : Nat} {T : Mo} {es : List (D × D)} {st : Store} (h : Dk q r (nowD T []) (es.map ent) st) (he : En T es) (hx : x < T.length) (ht2 : 2 ≤ T.length) (h4 : T.length ≤ 4) (hl : es.length < 58) (hw : w < 3)
    (ht0 : st[0]? = some (.tab "_law_bad" (lamQ "_law_bad"))) (ht1 : st[1]? = some (.tab "_law_attempted" (lamQ "_law_attempted"))) (hq : q ≠ 0) (hr : r ≠ 0) :
    Tr (wordM (m__law_attempted (.ref q) (.int (x : Nat)) (.int (w : Nat)))) st fun d s => d = wordS w ∧ Dk q (st.length + 1) (nowD T []) (es.map ent) s ∧ Go q r st s := by
  have hx : Xr (m__law_attempted (.ref q) (.int (x : Nat)) (.int (w : Nat))) st ⟨badC w, []⟩ fun s => Dk q (st.length + 1) (nowD T []) (es.map ent) s ∧ Go q r st s := by
    unfold m__law_attempted mB__law_attempted
    simp (config := {implicitDefEqProofs := false}) only [M.pure_bind, M.bind_assoc, m3]
    refine xr_run (recv_ok h.dq rfl) (xr_run (tabC_ok ht1) (xr_bind ?_))
    exact att_xr (mb := fun d => m__law_bad d (.int (x : Nat)) (.int (w : Nat))) h (by rw [List.length_map]; omega) fun s g d => bad_xr d he hx ht2 h4 hl hw (g.at ht0) hq hr
  obtain ⟨s, e, p⟩ := hx.ex
  refine ⟨⟨wordS w, s, ?_, rfl, p⟩⟩
  unfold wordM
  rw [e]
  rcases (show w = 0 ∨ w = 1 ∨ w = 2 by omega) with rfl | rfl | rfl <;> rfl
end My
namespace My
open PySem PySem.Spec PyProof.Rows L2 DL DH DX
open TL (joinL)
/-! k73: looking at a desk -/
def lookD (T : Mo) (es : List (D × D)) : D := .tup [mD T, hD [], .lst (es.map Prod.snd), .int (es.length : Nat)]
theorem allP_ent : ∀ (es : List (D × D)), allP dec2 (es.map ent) = some es
  | [] => rfl
  | (a, b) :: es => by
    have ih := allP_ent es
    rw [List.map_cons]
    unfold allP
    rw [ih]
    rfl
theorem nox_run {α : Type} {m : M α} {st s : Store} {a : α} (h : m st = .ok a s) : nox m st = .ok a s := by
  unfold nox
  rw [h]
theorem look_run {q r : Nat} {T : Mo} {es : List (D × D)} {st : Store} (h : Dk q r (nowD T []) (es.map ent) st) (hl : es.length < 100) : m__law_look (.ref q) st = .ok (lookD T es) st := by
  have e1 : m_Desk_model (.ref q) st = .ok (mD T) st := by
    unfold m_Desk_model mB_Desk_model
    simp (config := {implicitDefEqProofs := false}) only [M.pure_bind, M.bind_assoc]
    rw [DL.bind_ok h.now]
    rfl
  have e2 : m_Desk_held (.ref q) st = .ok (hD []) st := by
    unfold m_Desk_held mB_Desk_held
    simp (config := {implicitDefEqProofs := false}) only [M.pure_bind, M.bind_assoc]
    rw [DL.bind_ok h.now]
    rfl
  have e3 : m_Desk_lines (.ref q) st = .ok (es.map Prod.snd) st := by
    unfold m_Desk_lines
    simp (config := {implicitDefEqProofs := false}) only [M.pure_bind, M.bind_assoc]
    have el : dList fLst (.ref r) st = .ok (.lst (es.map ent)) st := by
      show (rdC r >>= fLst) st = _
      rw [DL.bind_ok (rdC_ok h.dr), f_lst (by rw [List.length_map]; omega)]
      rfl
    rw [DL.bind_ok h.past, DL.bind_ok el, w_lst, M.pure_bind]
    unfold genL
    rw [allP_ent]
    rfl
  unfold m__law_look mB__law_look
  simp (config := {implicitDefEqProofs := false}) only [M.pure_bind, M.bind_assoc]
  have hn : (es.map ent).length = es.length := List.length_map _
  rw [DL.bind_ok (ins_ok h.dq), DL.bind_ok (nox_run e1), DL.bind_ok (ins_ok h.dq), DL.bind_ok (nox_run e2), DL.bind_ok (recv_ok h.dq rfl), DL.bind_ok (nox_run e3), f_lst (by rw [List.length_map]; omega), M.pure_bind, len_run h (by omega), hn, mk_t4]
  rfl
theorem look_ok (T : Mo) (es : List (D × D)) (h : En T es) : okD 60 (lookD T es) = true := ok_tup.mpr fun d hd => by
  rcases List.mem_cons.mp hd with rfl | hd
  · exact mD_ok T
  rcases List.mem_cons.mp hd with rfl | hd
  · exact ok_tup.mpr fun e he => by cases he
  rcases List.mem_cons.mp hd with rfl | hd
  · show okD 59 (.lst (es.map Prod.snd)) = true
    rw [okD]
    exact okDs_iff.mpr fun d hd => by
      obtain ⟨p, hp, rfl⟩ := List.mem_map.mp hd
      obtain ⟨x, rfl | rfl⟩ := h p hp
      · exact ok_str _
      · exact ok_str _
  · rw [List.mem_singleton.mp hd]
    exact ok_int _
end My
namespace My
open PySem PySem.Spec PyProof.Rows L2 DL DH DX
open TL (joinL)
/-! k73: a new desk -/
theorem desk_tr {T : Mo} {st : Store} (hr : m_is_right_model (mD T) = pure (.bl true)) :
    Tr (makeM "Desk" (mk2 m_Desk_init) [mD T]) st fun t s => t = .ref st.length ∧ Dk st.length (st.length + 1) (nowD T []) [] s ∧ Gr st s := by
  unfold makeM
  refine tr_run (show newI "Desk" st = .ok (.ref st.length) (st ++ [Cell.ins "Desk" []]) from rfl) ?_
  rw [m2]
  unfold m_Desk_init mB_Desk_init
  simp (config := {implicitDefEqProofs := false}) only [M.pure_bind, M.bind_assoc, m1]
  rw [need_ok hr, M.pure_bind, mk_t0, M.pure_bind, mk_t2, M.pure_bind]
  have n1 : (st ++ [Cell.ins "Desk" []])[st.length]? = some (Cell.ins "Desk" []) := List.getElem?_concat_length
  refine tr_run (set_ok n1 (by decide)) ?_
  have g2 : Gr st ((st ++ [Cell.ins "Desk" []]).set st.length (Cell.ins "Desk" [("now", nowD T [])])) := (Gr.push _).set (Nat.le_refl _) _
  have l2 : ((st ++ [Cell.ins "Desk" []]).set st.length (Cell.ins "Desk" [("now", nowD T [])])).length = st.length + 1 := by rw [List.length_set, List.length_append, List.length_singleton]
  have n2 : ((st ++ [Cell.ins "Desk" []]).set st.length (Cell.ins "Desk" [("now", nowD T [])]))[st.length]? = some (Cell.ins "Desk" [("now", nowD T [])]) := List.getElem?_set_self (by rw [List.length_append, List.length_singleton]; omega)
  change Tr (newC [] >>= _) ((st ++ [Cell.ins "Desk" []]).set st.length (Cell.ins "Desk" [("now", nowD T [])])) _
  generalize hs2 : ((st ++ [Cell.ins "Desk" []]).set st.length (Cell.ins "Desk" [("now", nowD T [])])) = s2 at *
  refine tr_run (show newC [] s2 = .ok (.ref s2.length) (s2 ++ [.lst []]) from if_pos (by decide)) ?_
  rw [l2]
  have n3 : (s2 ++ [Cell.lst []])[st.length]? = some (Cell.ins "Desk" [("now", nowD T [])]) := by rw [List.getElem?_append_left (by omega)]; exact n2
  refine tr_run (set_ok n3 (by decide : (1 : Nat) < 1000)) ?_
  have g3 : Gr st (s2 ++ [Cell.lst []]) := g2.trans (Gr.push _)
  rw [show retM (Fl.next () : Fl Unit Empty) = pure .non from rfl, M.pure_bind]
  refine tr_run (show isNon .non _ = .ok () _ from rfl) ?_
  refine tr_pure ⟨rfl, ⟨List.getElem?_set_self (by rw [List.length_append, List.length_singleton]; omega), ?_, by omega⟩, g3.set (Nat.le_refl _) _⟩
  rw [List.getElem?_set_ne (by omega), ← l2]
  exact List.getElem?_concat_length
theorem ne_desks {q r q2 r2 : Nat} {T : Mo} {ps ps2 : List D} {st : Store} (h : Dk q r (nowD T []) ps st) (k : Dk q2 r2 (nowD T []) ps2 st) : dNeO "Desk" (mk2 m_Desk___eq__) (.ref q) (.ref q2) st = .ok (.bl false) st := by
  unfold dNeO
  have e : m_Desk___eq__ (.ref q) (.ref q2) st = .ok (.bl true) st := by
    unfold m_Desk___eq__ mB_Desk___eq__ vAnd
    simp (config := {implicitDefEqProofs := false}) only [M.pure_bind, M.bind_assoc]
    rw [DL.bind_ok (ins_ok k.dq)]
    rw [b_as, M.pure_bind, if_pos rfl]
    simp (config := {implicitDefEqProofs := false}) only [M.pure_bind, M.bind_assoc]
    rw [DL.bind_ok h.now, DL.bind_ok k.now, eq_same (now_ok (n := 58) T []), M.pure_bind]
    rfl
  rw [DL.bind_ok (ins_ok h.dq), DL.bind_ok (ins_ok k.dq), DL.bind_ok (nox_run (by rw [m2]; exact e))]
  rfl
end My
namespace My
open PySem PySem.Spec PyProof.Rows L2 DL DH DX
open TL (joinL)
/-! k73: the tables, the room -/
abbrev cBad : Cell := .tab "_law_bad" (lamQ "_law_bad")
abbrev cAtt : Cell := .tab "_law_attempted" (lamQ "_law_attempted")
abbrev cLaw (made : Option Nat) : Cell := .tabG (some "law") (lamQ "law") 244 21 made
abbrev cIn : Cell := .tabG none (lamQ (lamQ "law")) 0 0 none
structure TG (B : Nat) (s : Store) : Prop where
  b3 : 3 ≤ B
  bl : B ≤ s.length
  t0 : s[0]? = some cBad
  t1 : s[1]? = some cAtt
  t2 : ∃ made, s[2]? = some (cLaw made) ∧ ∀ n, made = some n → 2 < n ∧ n < B ∧ s[n]? = some cIn
theorem TG.keep {B : Nat} {s s' : Store} (h : TG B s) (hl : s.length ≤ s'.length) (k : ∀ j, j < B → s'[j]? = s[j]?) : TG B s' := by
  obtain ⟨b3, bl, t0, t1, made, t2, hm⟩ := h
  refine ⟨b3, Nat.le_trans bl hl, (k 0 (by omega)).trans t0, (k 1 (by omega)).trans t1, made, (k 2 (by omega)).trans t2, fun n e => ?_⟩
  obtain ⟨a, b, c⟩ := hm n e
  exact ⟨a, b, (k n b).trans c⟩
theorem TG.mono {B : Nat} {s : Store} (h : TG B s) : TG s.length s := by
  obtain ⟨b3, bl, t0, t1, made, t2, hm⟩ := h
  refine ⟨by omega, Nat.le_refl _, t0, t1, made, t2, fun n e => ?_⟩
  obtain ⟨a, b, c⟩ := hm n e
  exact ⟨a, by omega, c⟩
theorem TG.x {B : Nat} {s : Store} (h : TG B s) : tabX 2 "law" (lamQ "law") 244 21 s = .ok () s := by
  obtain ⟨made, t2, _⟩ := h.t2
  unfold tabX
  rw [t2]
  exact if_pos (by simp)
theorem tabI_ok {n : Nat} {s : Store} (h : s[n]? = some cIn) : tabI n (lamQ (lamQ "law")) s = .ok () s := by
  unfold tabI
  rw [h]
  exact if_pos (by simp)
theorem TG.n {B : Nat} {s : Store} (h : TG B s) : Tr (tabN 2 "law" (lamQ "law") 244 21 (lamQ (lamQ "law"))) s fun n s' => (n < B ∨ s.length ≤ n) ∧ 2 < n ∧ s.length ≤ s'.length ∧ (∀ j, j < s.length → j ≠ 2 → s'[j]? = s[j]?) ∧ s'[2]? = some (cLaw (some n)) ∧ s'[n]? = some cIn := by
  obtain ⟨b3, bl, _, _, made, t2, hm⟩ := h
  cases made with
  | some n =>
    obtain ⟨a, b, c⟩ := hm n rfl
    refine ⟨⟨n, s, ?_, .inl b, a, Nat.le_refl _, fun _ _ _ => rfl, t2, c⟩⟩
    unfold tabN
    rw [t2]
    exact if_pos (by simp)
  | none =>
    refine ⟨⟨s.length, s.set 2 (cLaw (some s.length)) ++ [cIn], ?_, .inr (Nat.le_refl _), by omega, ?_, fun j hj ne => ?_, ?_, ?_⟩⟩
    · unfold tabN
      rw [t2]
      exact if_pos (by simp)
    · rw [List.length_append, List.length_set]
      omega
    · rw [List.getElem?_append_left (by rw [List.length_set]; exact hj), List.getElem?_set_ne (Ne.symm ne)]
    · rw [List.getElem?_append_left (by rw [List.length_set]; omega)]
      exact List.getElem?_set_self (by omega)
    · have : (s.set 2 (cLaw (some s.length))).length = s.length := List.length_set
      rw [List.getElem?_append_right (by omega), this, Nat.sub_self]
      rfl
/-- the desk at q, the looks at z, the source at B; the tables lie below B -/
structure Rm (B q z : Nat) (T : Mo) (es : List (D × D)) (L : List D) (s : Store) : Prop where
  tg : TG B s
  src : Gs B s
  lk : s[z]? = some (.lst L)
  bq : B < q
  bz : B < z
  zq : z ≠ q
  dk : ∃ r, B < r ∧ r ≠ z ∧ Dk q r (nowD T []) (es.map ent) s
variable {B q z : Nat} {T : Mo} {es : List (D × D)} {L : List D} {s : Store}
theorem Gs.keep {s' : Store} (h : Gs B s) (e : s'[B]? = s[B]?) : Gs B s' := by
  obtain ⟨a, b, h⟩ := h
  exact ⟨a, b, e.trans h⟩
theorem Rm.fr {s' : Store} (h : Rm B q z T es L s) (f : Fr B s s') : Rm B q z T es L s' := by
  obtain ⟨tg, src, lk, bq, bz, zq, r, br, rz, d⟩ := h
  have := src.lt
  exact ⟨tg.keep f.len fun j hj => f.keep j (by omega) (by omega), f.src, f.at lk (by omega), bq, bz, zq, r, br, rz, f.at d.dq (by omega), f.at d.dr (by omega), d.ne⟩
theorem Rm.go {s' : Store} {r r' : Nat} {es' : List (D × D)} (h : Rm B q z T es L s) (d : Dk q r (nowD T []) (es.map ent) s) (br : B < r) (rz : r ≠ z) (g : Go q r s s') (hr : r' = r ∨ s.length ≤ r') (d' : Dk q r' (nowD T []) (es'.map ent) s') : Rm B q z T es' L s' := by
  obtain ⟨tg, src, lk, bq, bz, zq, _⟩ := h
  have hB := src.lt
  have hz := (List.getElem?_eq_some_iff.mp lk).1
  exact ⟨tg.keep g.len fun j hj => g.keep j (by omega) (by omega) (by omega), src.keep (g.keep B (by omega) (by omega) (by omega)), g.at lk zq (by omega), bq, bz, zq, r', by omega, by omega, d'⟩
theorem Rm.app {L' : List D} (h : Rm B q z T es L s) : Rm B q z T es L' (s.set z (.lst L')) := by
  obtain ⟨tg, src, lk, bq, bz, zq, r, br, rz, d⟩ := h
  have hz := (List.getElem?_eq_some_iff.mp lk).1
  exact ⟨tg.keep (by rw [List.length_set]; exact Nat.le_refl _) fun j hj => List.getElem?_set_ne (by omega), src.keep (List.getElem?_set_ne (by omega)), List.getElem?_set_self hz, bq, bz, zq, r, br, rz, by rw [List.getElem?_set_ne zq]; exact d.dq, by rw [List.getElem?_set_ne (Ne.symm rz)]; exact d.dr, d.ne⟩
theorem Rm.look (h : Rm B q z T es L s) (hl : es.length < 100) : m__law_look (.ref q) s = .ok (lookD T es) s := by
  obtain ⟨r, _, _, d⟩ := h.dk
  exact look_run d hl
theorem Rm.rcv {m : PySem.Str} (h : Rm B q z T es L s) (hm : (([("now", nowD T []), ("past", .non)] : List (PySem.Str × D)).lookup m).isNone = true) : recv "Desk" m (.ref q) s = .ok () s := by
  obtain ⟨r, _, _, d⟩ := h.dk
  refine recv_ok d.dq ?_
  revert hm
  simp only [List.lookup]
  cases (m == ("now" : PySem.Str)) <;> cases (m == ("past" : PySem.Str)) <;> simp
/-- a failing attempt: its word, and nothing changed -/
theorem Rm.word {x w : Nat} (h : Rm B q z T es L s) (he : En T es) (hx : x < T.length) (ht2 : 2 ≤ T.length) (h4 : T.length ≤ 4) (hl : es.length < 58) (hw : w < 3) :
    Tr (wordM (m__law_attempted (.ref q) (.int (x : Nat)) (.int (w : Nat)))) s fun d s' => d = wordS w ∧ Rm B q z T es L s' := by
  obtain ⟨r, br, rz, d⟩ := h.dk
  refine tr_mono (attempted_run d he hx ht2 h4 hl hw h.tg.t0 h.tg.t1 (by have := h.bq; omega) (by omega)) fun d2 s' ⟨e, d', g⟩ => ⟨e, h.go d br rz g (.inr (by omega)) d'⟩
theorem Rm.good {x : Nat} (h : Rm B q z T es L s) (he : En T es) (hx : x < T.length) (ht2 : 2 ≤ T.length) (h4 : T.length ≤ 4) (hl : es.length < 58) :
    Tr (attW (fun d => m__law_good d (.int (x : Nat))) (.ref q)) s fun d s' => d = .int ((es.length + 2 : Nat) : Int) ∧ Rm B q z T (es ++ [h1 T x, h2 T x]) L s' := by
  obtain ⟨r, br, rz, d⟩ := h.dk
  exact tr_mono (att_good d he hx ht2 h4 hl) fun d2 s' ⟨e, d', g⟩ => ⟨e, h.go d br rz g (.inl rfl) d'⟩
/-- two calls taken back -/
theorem Rm.undo2 {p1 p2 : D × D} (h : Rm B q z T (es ++ [p1, p2]) L s) (he : En T (es ++ [p1, p2])) (h1 : p1.1 = nowD T []) :
    Tr (m_Desk_undo (.ref q)) s fun _ s' => (∃ r now ps, Dk q r now ps s') ∧ Tr (m_Desk_undo (.ref q)) s' fun _ s2 => Rm B q z T es L s2 := by
  obtain ⟨r, br, rz, d⟩ := h.dk
  have e2 : es ++ [p1, p2] = (es ++ [p1]) ++ [(p2.1, p2.2)] := by rw [List.append_assoc]; rfl
  refine tr_mono (undo_tr (r := r) (now := nowD T []) (es := es ++ [p1]) (b := p2.1) (l := p2.2) (by rw [← e2]; exact d) (by rw [← e2]; exact he.ok)) fun _ s1 ⟨d1, g1⟩ => ⟨⟨_, _, _, d1⟩, ?_⟩
  refine tr_mono (undo_tr (r := r) (now := p2.1) (es := es) (b := p1.1) (l := p1.2) d1 (En.ok (T := T) fun y hy => he y ?_)) fun _ s2 ⟨d2, g2⟩ => ?_
  · rw [e2]; exact List.mem_append_left _ hy
  · rw [h1] at d2
    exact h.go d br rz (g1.trans g2) (.inl rfl) d2
end My
namespace My
open PySem PySem.Spec PyProof.Rows L2 DL DH DX
open TL (joinL)
/-! k73: the history, the law -/
inductive Hi (T : Mo) : List (D × D) → List D → Prop
  | nil : Hi T [] []
  | step {es : List (D × D)} {L : List D} {x : Nat} : Hi T es L → Hi T (es ++ [h1 T x, h2 T x]) (L ++ [lookD T es])
theorem Hi.en {T : Mo} {es : List (D × D)} {L : List D} (h : Hi T es L) : En T es := by
  induction h with
  | nil => exact fun p hp => by cases hp
  | @step es L x _ ih =>
    have e : es ++ [h1 T x, h2 T x] = (es ++ [h1 T x]) ++ [h2 T x] := by rw [List.append_assoc]; rfl
    rw [e]
    exact (ih.snoc ⟨x, .inl rfl⟩).snoc ⟨x, .inr rfl⟩
theorem back_tr {B q z : Nat} {T : Mo} {L0 : List D} {body : Unit → D → M (Fl Unit Unit)}
    (hb : ∀ es x s, Rm B q z T (es ++ [h1 T x, h2 T x]) L0 s → En T (es ++ [h1 T x, h2 T x]) → es.length < 58 → Tr (body () (lookD T es)) s fun f s' => f = .next () ∧ Rm B q z T es L0 s') :
    ∀ {es : List (D × D)} {L : List D} (_ : Hi T es L) (_ : es.length < 58) {s : Store} (_ : Rm B q z T es L0 s), Tr (loopM dec1 body L.reverse ()) s fun f s' => f = .next () ∧ Rm B q z T [] L0 s' := by
  intro es L H
  induction H with
  | nil => exact fun _ _ h => tr_pure ⟨rfl, h⟩
  | @step es L x H ih =>
    intro hl s h
    have hl' : es.length < 58 := by
      rw [List.length_append] at hl
      omega
    rw [List.reverse_append]
    show Tr (body () (lookD T es) >>= _) s _
    refine tr_then (hb es x s h (Hi.step H).en hl') fun f s' ⟨e, h'⟩ => ?_
    subst e
    exact ih hl' h'
theorem Rm.gr {B q z : Nat} {T : Mo} {es : List (D × D)} {L : List D} {s s' : Store} (h : Rm B q z T es L s) (g : Gr s s') : Rm B q z T es L s' := by
  obtain ⟨r, br, rz, d⟩ := h.dk
  exact h.go d br rz g.go (.inl rfl) ⟨g.at d.dq, g.at d.dr, d.ne⟩
/-- undo on a desk with no calls -/
theorem Rm.undo0 {B q z : Nat} {T : Mo} {L : List D} {s : Store} (h : Rm B q z T [] L s) : wordM (recv "Desk" "undo" (.ref q) >>= fun _ => m_Desk_undo (.ref q)) s = .ok (.str sUndo) s := by
  obtain ⟨r, br, rz, d⟩ := h.dk
  have hx : Xr (recv "Desk" "undo" (.ref q) >>= fun _ => m_Desk_undo (.ref q)) s ⟨"NothingToUndo", []⟩ fun s' => s' = s := xr_run (recv_ok d.dq rfl) (undo_xr d rfl)
  obtain ⟨s', e, p⟩ := hx.ex
  subst p
  unfold wordM
  rw [e]
  rfl
theorem Rm.seven {B q z : Nat} {T : Mo} {es : List (D × D)} {L : List D} {s : Store} (h : Rm B q z T es L s) (hl : es.length < 1000) : Tr (attW (fun _ => pure (.int 7)) (.ref q)) s fun d s' => d = .int 7 ∧ Rm B q z T es L s' := by
  obtain ⟨r, br, rz, d⟩ := h.dk
  refine att_ok d (by rw [List.length_map]; omega) fun s' g _ => tr_pure ⟨rfl, h.gr g⟩
/-- the last call: the inner table, the undo of nothing, undone -/
theorem Rm.last {B q z : Nat} {T : Mo} {L : List D} {s : Store} (h : Rm B q z T [] L s) : Tr (tabN 2 "law" (lamQ "law") 244 21 (lamQ (lamQ "law")) >>= fun n => wordM (recv "Desk" "attempt" (.ref q) >>= fun _ => tabI n (lamQ (lamQ "law")) >>= fun _ => attW (fun d => recv "Desk" "undo" d >>= fun _ => m_Desk_undo d) (.ref q))) s fun d s' => d = .str sUndo ∧ TG s'.length s' := by
  obtain ⟨r, br, rz, d⟩ := h.dk
  have hb := h.tg.b3
  have hbl := h.tg.bl
  have hq := h.bq
  have hlt := d.lt
  refine tr_then h.tg.n fun n s1 ⟨hn, n2, hl, hk, e2, en⟩ => ?_
  have d1 : Dk q r (nowD T []) [] s1 := ⟨(hk q hlt.1 (by omega)).trans d.dq, (hk r hlt.2 (by omega)).trans d.dr, d.ne⟩
  have hx : Xr (recv "Desk" "attempt" (.ref q) >>= fun _ => tabI n (lamQ (lamQ "law")) >>= fun _ => attW (fun d => recv "Desk" "undo" d >>= fun _ => m_Desk_undo d) (.ref q)) s1 ⟨"NothingToUndo", []⟩ fun s' => Dk q (s1.length + 1) (nowD T []) [] s' ∧ Go q r s1 s' := by
    refine xr_run (recv_ok d1.dq rfl) (xr_run (tabI_ok en) (att_xr d1 (by decide) fun s' g' dd => ?_))
    exact xr_run (recv_ok dd.dq rfl) (undo_xr dd ⟨Go.refl, _, _, dd.dq⟩)
  obtain ⟨s2, e, d2, g⟩ := hx.ex
  refine ⟨⟨.str sUndo, s2, ?_, rfl, ?_⟩⟩
  · unfold wordM
    rw [e]
    rfl
  · have hn2 := (List.getElem?_eq_some_iff.mp en).1
    have gl := g.len
    refine ⟨by omega, Nat.le_refl _, g.at ((hk 0 (by omega) (by omega)).trans h.tg.t0) (by omega) (by omega), g.at ((hk 1 (by omega) (by omega)).trans h.tg.t1) (by omega) (by omega), some n, g.at e2 (by omega) (by omega), fun m em => ?_⟩
    cases em
    exact ⟨n2, by omega, g.at en (by omega) (by omega)⟩
theorem word_ne {w : Nat} (hw : w < 3) {β : Type} (f : D → M β) : (dEq (.int (w : Nat)) (.int 2) >>= fun x => asB x >>= fun t => (if t = true then pure (.str [117, 110, 100, 111]) else pure (.str [112, 108, 97, 99, 101])) >>= fun x => dNe (wordS w) x >>= f) = f (.bl false) := by
  rcases (show w = 0 ∨ w = 1 ∨ w = 2 by omega) with rfl | rfl | rfl
  · rw [show dEq (.int ((0 : Nat) : Int)) (.int 2) = pure (.bl false) from rfl, M.pure_bind, b_as, M.pure_bind, if_neg Bool.false_ne_true, M.pure_bind]
    exact (congrArg (fun z => z >>= f) (ne_same (ok_str _))).trans (M.pure_bind _ _)
  · rw [show dEq (.int ((1 : Nat) : Int)) (.int 2) = pure (.bl false) from rfl, M.pure_bind, b_as, M.pure_bind, if_neg Bool.false_ne_true, M.pure_bind]
    exact (congrArg (fun z => z >>= f) (ne_same (ok_str _))).trans (M.pure_bind _ _)
  · rw [show dEq (.int ((2 : Nat) : Int)) (.int 2) = pure (.bl true) from rfl, M.pure_bind, b_as, M.pure_bind, if_pos rfl, M.pure_bind]
    exact (congrArg (fun z => z >>= f) (ne_same (ok_str _))).trans (M.pure_bind _ _)
theorem max_min73 (k : Nat) : ∃ n : Nat, n ≤ 8 ∧ ∀ {β : Type} (f : D → M β), (dMin2 (.int 8) (.int (k : Nat)) >>= fun x => dMax2 (.int 3) x >>= f) = f (.int (n : Nat)) := by
  have e1 : ∀ a b : Int, dMin2 (.int a) (.int b) = pure (.int (if b < a then b else a)) := fun _ _ => rfl
  have e2 : ∀ a b : Int, dMax2 (.int a) (.int b) = pure (.int (if b > a then b else a)) := fun _ _ => rfl
  refine ⟨((if (if (k : Int) < 8 then (k : Int) else 8) > 3 then (if (k : Int) < 8 then (k : Int) else 8) else 3) : Int).toNat, ?_, fun f => ?_⟩
  · split <;> split at * <;> omega
  · rw [e1, M.pure_bind, e2, M.pure_bind]
    congr 2
    split <;> split at * <;> omega
theorem MOk.up {m : Nat} {T : Mo} (h : MOk 2 m T) : MOk 4 m T := ⟨h.len, h.row, h.sgn, Nat.le_trans h.few (by decide)⟩
theorem right_of {m : Nat} {T : Mo} (h1 : 1 ≤ m) (h2 : m ≤ 4) (h : MOk 4 m T) : m_is_right_model (mD T) = pure (.bl true) := by
  rw [model_sz (B := 4) (n := 1) (by decide) (mD_sz h2 h), ok_of h1 h2 h]
theorem pick_model {m : Nat} {T : Mo} (h1 : 1 ≤ m) (h2 : (m : Int) ≤ 3) (h : MOk 2 m T) : ∃ T' : Mo, 2 ≤ T'.length ∧ T'.length ≤ 4 ∧ m_is_right_model (mD T') = pure (.bl true) ∧ ∀ {β : Type} (f : D → M β), (dLen (mD T) >>= fun x => dGt x (.int 1) >>= fun x => asB x >>= fun t => (if t = true then pure (mD T) else mkTup [.str [45, 48], .str [43, 45]]) >>= f) = f (mD T') := by
  by_cases hm : 1 < m
  · refine ⟨T, by rw [h.len]; omega, by rw [h.len]; omega, right_of h1 (by omega) h.up, fun f => ?_⟩
    rw [mD_len, M.pure_bind, ii_gt, M.pure_bind, b_as, M.pure_bind, decide_eq_true (by rw [h.len]; omega), if_pos rfl, M.pure_bind]
  · refine ⟨[[45, 48], [43, 45]], by decide, by decide, right_of (m := 2) (by decide) (by decide) ⟨rfl, by decide, by decide, by decide⟩, fun f => ?_⟩
    rw [mD_len, M.pure_bind, ii_gt, M.pure_bind, b_as, M.pure_bind, decide_eq_false (by rw [h.len]; omega), if_neg Bool.false_ne_true, mk_t2, M.pure_bind]
    rfl
theorem rev_run {z : Nat} {L : List D} {s : Store} (h : s[z]? = some (.lst L)) (hl : L.length ≤ 1000) : dRevL fLst (.ref z) s = .ok (.lst L.reverse) s := by
  show (rdC z >>= fun xs => fLst xs.reverse) s = _
  rw [DL.bind_ok (rdC_ok h), f_lst (by rw [List.length_reverse]; omega)]
  rfl
theorem last_ix {z : Nat} {L : List D} {d : D} {s : Store} (h : s[z]? = some (.lst (L ++ [d]))) : dIndex (.ref z) (.int (-1)) s = .ok d s := by
  refine rd_ix h ?_
  show ((ixN (L ++ [d]).length (-1)).bind fun j => (L ++ [d])[j]?) = some d
  have e : ixN (L ++ [d]).length (-1) = some L.length := by
    rw [List.length_append, List.length_singleton]
    unfold ixN
    rw [if_neg (by omega), if_pos (by omega)]
    congr 1
    omega
  rw [e]
  exact List.getElem?_concat_length
theorem app_run2 {z : Nat} {L : List D} {d : D} {s : Store} (h : s[z]? = some (.lst L)) (hl : L.length < 1000) : appC (.ref z) d s = .ok .non (s.set z (.lst (L ++ [d]))) := by
  show (rdC z >>= fun xs => if xs.length < 16777216 then wrC z (.lst (xs ++ [d])) >>= fun _ => pure D.non else M.stuck) s = _
  rw [DL.bind_ok (rdC_ok h), if_pos (by omega)]
  rfl
end My
namespace My
open PySem PySem.Spec PyProof.Rows L2 DL DH DX
open TL (joinL)
/-! k73: the law -/
theorem law_run (ns : List Int) (st : Store) (hT : TG st.length st) : Tr (m_law (.scr ns)) st fun d _ => d = .bl true := by
  unfold m_law mB_law bOr
  simp (config := {implicitDefEqProofs := false}) only [M.pure_bind, M.bind_assoc, m1, m2, m3, c_len]
  obtain ⟨K, hK, e'⟩ := max_min73 ns.length
  rw [e', rng_1 ⟨by omega, by omega⟩, M.pure_bind]
  refine tr_then (loop_tr (I := fun _ s => TG s.length s) (fun d hd => ⟨d, rfl, fun u s0 hT0 => ?_⟩) hT) fun fl s1 ⟨_, e, hT1⟩ => ?_
  · obtain ⟨k, hk, rfl⟩ := up_mem hd
    rw [Int.zero_add]
    refine tr_then (source_tr (by omega)) fun d s ⟨a, b, e, e2⟩ => ?_
    subst e e2
    have g : Gs s0.length (s0 ++ [.lst [.int a, .int b]]) := ⟨a, b, List.getElem?_concat_length⟩
    refine tr_then (drawn_trm (hd := 2) (mo := 3) (by decide) (by decide) (by decide) g) fun d s2 ⟨f, m, T0, e, h1, h2, hM⟩ => ?_
    subst e
    obtain ⟨T, ht2, ht4, hright, hsel⟩ := pick_model h1 h2 hM
    refine tr_eq (hsel _) ?_
    refine tr_then (desk_tr hright) fun d s3 ⟨e, dk, gr⟩ => ?_
    subst e
    refine tr_run (show newC [] s3 = .ok (.ref s3.length) (s3 ++ [.lst []]) from if_pos (by decide)) ?_
    rw [mk_t2, M.pure_bind, show ∀ x y : D, ofO (dec2 (.tup [x, y])) = pure (x, y) from fun _ _ => rfl, M.pure_bind]
    dsimp only
    have hlen1 : (s0 ++ [Cell.lst [.int a, .int b]]).length = s0.length + 1 := by rw [List.length_append, List.length_singleton]
    have hf := f.len
    have hlt := dk.lt
    have R0 : Rm s0.length s2.length s3.length T [] [] (s3 ++ [.lst []]) := by
      have k0 : ∀ j, j < s0.length → (s3 ++ [Cell.lst []])[j]? = s0[j]? := fun j hj => by
        rw [(Gr.push _).keep j (by omega), gr.keep j (by omega), f.keep j (by omega) (by omega), (Gr.push _).keep j hj]
      have kB : (s3 ++ [Cell.lst []])[s0.length]? = s2[s0.length]? := by
        rw [(Gr.push _).keep _ (by omega), gr.keep _ (by omega)]
      exact ⟨hT0.keep (by rw [List.length_append]; omega) k0, f.src.keep kB, List.getElem?_concat_length, by omega, by omega, by omega, s2.length + 1, by omega, by omega, (Gr.push (Cell.lst [])).at dk.dq, (Gr.push (Cell.lst [])).at dk.dr, dk.ne⟩
    generalize hq : s2.length = q at R0 ⊢
    generalize hz : s3.length = z at R0 ⊢
    generalize hB : s0.length = B at R0 ⊢
    generalize s3 ++ [Cell.lst []] = s4 at R0 ⊢
    clear hq hz hB dk gr hf hlt hlen1 f g
    rw [rng_1 (by decide), M.pure_bind]
    refine tr_then (loop_ix (k := 0) (I := fun k _ s => ∃ es L, Hi T es L ∧ es.length = 2 * k ∧ L.length = k ∧ Rm B q z T es L s) (fun j d hj => ⟨d, rfl, fun u s5 ⟨es, L, H, he, hL, R⟩ => ?_⟩) ⟨[], [], .nil, rfl, rfl, R0⟩) fun fl s6 ⟨_, e, es, L, H, he, hL, R⟩ => ?_
    · have hj' := (List.getElem?_eq_some_iff.mp hj).1
      rw [upFrom_len] at hj'
      have hj2 : j < 4 := hj'
      rw [mD_len, M.pure_bind]
      refine tr_then (pick_tr R.src (by omega) (by omega)) fun d s6 ⟨f6, x, e, x0, x1⟩ => ?_
      subst e
      obtain ⟨x, rfl⟩ := Int.eq_ofNat_of_zero_le x0
      have hx : x < T.length := by omega
      have R6 := R.fr f6
      refine tr_run (show isC (.ref z) s6 = .ok () s6 from (DL.bind_ok (rdC_ok R6.lk)).trans rfl) ?_
      refine tr_run (R6.look (by omega)) (tr_run (app_run2 R6.lk (by omega)) ?_)
      have R7 : Rm B q z T es (L ++ [lookD T es]) (s6.set z (.lst (L ++ [lookD T es]))) := R6.app
      generalize s6.set z (Cell.lst (L ++ [lookD T es])) = s7 at R7 ⊢
      rw [show mkTup [.int 0, .int 1, .int 2] = pure (.tup [.int 0, .int 1, .int 2]) from rfl, M.pure_bind, w_tup, M.pure_bind]
      refine tr_then (loop_tr (I := fun _ s => Rm B q z T es (L ++ [lookD T es]) s) (fun d hd => ⟨d, rfl, fun u s8 R8 => ?_⟩) R7) fun fl s8 ⟨_, e, R8⟩ => ?_
      · obtain ⟨w, hw, rfl⟩ : ∃ w : Nat, w < 3 ∧ d = .int (w : Nat) := by
          rcases List.mem_cons.mp hd with rfl | hd
          · exact ⟨0, by decide, rfl⟩
          rcases List.mem_cons.mp hd with rfl | hd
          · exact ⟨1, by decide, rfl⟩
          · exact ⟨2, by decide, List.mem_singleton.mp hd⟩
        refine tr_run R8.tg.x (tr_then (R8.word H.en hx ht2 ht4 (by omega) hw) fun d s9 ⟨e, R9⟩ => ?_)
        subst e
        refine tr_eq (word_ne hw _) ?_
        rw [b_as, M.pure_bind, if_neg Bool.false_ne_true]
        simp (config := {implicitDefEqProofs := false}) only [M.pure_bind, M.bind_assoc]
        refine tr_run (R9.look (by omega)) ?_
        rw [show dNeg (.int 1) = pure (.int (-1)) from rfl, M.pure_bind]
        refine tr_run (last_ix R9.lk) ?_
        rw [ne_same (look_ok T es H.en), M.pure_bind, b_as, M.pure_bind, if_neg Bool.false_ne_true]
        exact tr_pure ⟨(), rfl, R9⟩
      · subst e
        rw [tl_next]
        refine tr_run (R8.rcv rfl) (tr_run R8.tg.x (tr_then (R8.good H.en hx ht2 ht4 (by omega)) fun d s9 ⟨e, R9⟩ => ?_))
        subst e
        rw [show dNeg (.int 1) = pure (.int (-1)) from rfl, M.pure_bind]
        refine tr_run (last_ix R9.lk) ?_
        rw [show dIndex (lookD T es) (.int 3) = pure (.int (es.length : Nat)) from rfl, M.pure_bind, ii_add, M.pure_bind, show ((es.length : Nat) : Int) + 2 = ((es.length + 2 : Nat) : Int) from by omega, ne_same (ok_int _), M.pure_bind, b_as, M.pure_bind, if_neg Bool.false_ne_true]
        exact tr_pure ⟨(), rfl, es ++ [My.h1 T x, My.h2 T x], L ++ [lookD T es], H.step, by rw [List.length_append]; show es.length + 2 = _; omega, by rw [List.length_append]; show L.length + 1 = _; omega, R9⟩
    · subst e
      have he8 : es.length ≤ 8 := by rw [he, upFrom_len]; decide
      have hL4 : L.length ≤ 4 := by rw [hL, upFrom_len]; decide
      rw [tl_next]
      refine tr_run (rev_run R.lk (by omega)) ?_
      rw [w_lst, M.pure_bind]
      refine tr_then (back_tr (fun es' x s hR hen hl => ?_) H (by omega) R) fun fl s7 ⟨e, R7⟩ => ?_
      · rw [rng_1 (by decide), M.pure_bind]
        refine tr_then (P := fun fl s' => fl = .next () ∧ Rm B q z T es' L s') ?_ fun fl s' ⟨e, R'⟩ => ?_
        · show Tr (loopM dec1 _ [.int 0, .int 1] ()) s _
          simp (config := {implicitDefEqProofs := false}) only [loopM, dec1, M.pure_bind, M.bind_assoc]
          refine tr_run (hR.rcv rfl) (tr_then (hR.undo2 hen rfl) fun _ s1 ⟨⟨_, _, _, dd⟩, t1⟩ => ?_)
          exact tr_run (recv_ok dd.dq rfl) (tr_then t1 fun _ s2 R2 => tr_pure ⟨rfl, R2⟩)
        · subst e
          rw [tl_next]
          refine tr_run (R'.look (by omega)) ?_
          rw [ne_same (look_ok T es' fun y hy => hen y (List.mem_append_left _ hy)), M.pure_bind, b_as, M.pure_bind, if_neg Bool.false_ne_true]
          exact tr_pure ⟨rfl, R'⟩
      · subst e
        rw [tl_next]
        refine tr_run R7.tg.x (tr_run R7.undo0 ?_)
        rw [show sUndo = [117, 110, 100, 111] from rfl, ne_same (ok_str _), M.pure_bind, b_as, M.pure_bind, if_neg Bool.false_ne_true]
        simp (config := {implicitDefEqProofs := false}) only [M.pure_bind, M.bind_assoc]
        refine tr_then (desk_tr hright) fun d s8 ⟨e, dk, gr⟩ => ?_
        subst e
        have R8 := R7.gr gr
        obtain ⟨r8, _, _, dk8⟩ := R8.dk
        refine tr_run (ne_desks dk8 dk) ?_
        rw [b_as, M.pure_bind, if_neg Bool.false_ne_true]
        refine tr_run (R8.rcv rfl) (tr_run R8.tg.x (tr_then (R8.seven (by decide)) fun d s9 ⟨e, R9⟩ => ?_))
        subst e
        rw [ne_same (ok_int _), M.pure_bind, b_as, M.pure_bind, if_neg Bool.false_ne_true]
        have hlast := R9.last
        rw [← M.bind_assoc]
        refine tr_then hlast fun d s10 ⟨e, tg⟩ => ?_
        subst e
        rw [show sUndo = [117, 110, 100, 111] from rfl, ne_same (ok_str _), M.pure_bind, b_as, M.pure_bind, if_neg Bool.false_ne_true]
        exact tr_pure ⟨(), rfl, tg⟩
  · subst e
    rw [tl_next]
    exact tr_pure rfl
theorem law_true (ns : List Int) (hl : ns.length ≤ 63) (hb : ∀ z ∈ ns, Builtin.Int.intBits z ≤ 1048576) : ∃ st', m_law (.scr ns) (tabsL.map tabCell) = .ok (.bl true) st' := by
  have h0 : tabsL.map tabCell = [cBad, cAtt, cLaw none] := rfl
  obtain ⟨d, s, e, p⟩ := (law_run ns (tabsL.map tabCell) (by rw [h0]; exact ⟨by decide, Nat.le_refl _, rfl, rfl, none, rfl, fun n e => nomatch e⟩)).ex
  exact ⟨s, by rw [e, p]⟩
end My
namespace My
open PySem PySem.Spec PyProof.Rows L2 DL DH DX
variable {P : Program} {w : World} {K : PySem.W.Frag} {mg : Str → Option Value} {base : Heap}
def d__wall : He.DefD := ⟨("_wall", none), "_wall", "_wall", defArgs (top 0), defBody (top 0), defScope (top 0), [], []⟩
def d_is_within : He.DefD := ⟨("is_within", none), "is_within", "is_within", defArgs (top 14), defBody (top 14), defScope (top 14), [], []⟩
def d_is_known_sign : He.DefD := ⟨("is_known_sign", none), "is_known_sign", "is_known_sign", defArgs (top 15), defBody (top 15), defScope (top 15), [], []⟩
def d_is_row : He.DefD := ⟨("is_row", none), "is_row", "is_row", defArgs (top 16), defBody (top 16), defScope (top 16), [], []⟩
def d_is_right_model : He.DefD := ⟨("is_right_model", none), "is_right_model", "is_right_model", defArgs (top 17), defBody (top 17), defScope (top 17), [], []⟩
def d_is_place : He.DefD := ⟨("is_place", none), "is_place", "is_place", defArgs (top 18), defBody (top 18), defScope (top 18), [], []⟩
def d_need_model : He.DefD := ⟨("need_model", none), "need_model", "need_model", defArgs (top 19), defBody (top 19), defScope (top 19), [], []⟩
def d_need_quantity : He.DefD := ⟨("need_quantity", none), "need_quantity", "need_quantity", defArgs (top 20), defBody (top 20), defScope (top 20), [], []⟩
def d_need_place : He.DefD := ⟨("need_place", none), "need_place", "need_place", defArgs (top 21), defBody (top 21), defScope (top 21), [], []⟩
def d_unknown_places : He.DefD := ⟨("unknown_places", none), "unknown_places", "unknown_places", defArgs (top 22), defBody (top 22), defScope (top 22), [], []⟩
def d_with_sign : He.DefD := ⟨("with_sign", none), "with_sign", "with_sign", defArgs (top 23), defBody (top 23), defScope (top 23), [], []⟩
def d__law_source : He.DefD := ⟨("_law_source", none), "_law_source", "_law_source", defArgs (top 29), defBody (top 29), defScope (top 29), [], []⟩
def d__law_pick : He.DefD := ⟨("_law_pick", none), "_law_pick", "_law_pick", defArgs (top 30), defBody (top 30), defScope (top 30), [], []⟩
def d__law_chosen : He.DefD := ⟨("_law_chosen", none), "_law_chosen", "_law_chosen", defArgs (top 31), defBody (top 31), defScope (top 31), [], []⟩
def d__law_drawn_model : He.DefD := ⟨("_law_drawn_model", none), "_law_drawn_model", "_law_drawn_model", defArgs (top 32), defBody (top 32), defScope (top 32), [], []⟩
def d__law_look : He.DefD := ⟨("_law_look", none), "_law_look", "_law_look", defArgs (top 33), defBody (top 33), defScope (top 33), [], []⟩
def d__law_good : He.DefD := ⟨("_law_good", none), "_law_good", "_law_good", defArgs (top 34), defBody (top 34), defScope (top 34), [], []⟩
def d__law_bad : He.DefD := ⟨("_law_bad", none), "_law_bad", "_law_bad", defArgs (top 35), defBody (top 35), defScope (top 35), [], []⟩
def d__law_word : He.DefD := ⟨("_law_word", none), "_law_word", "_law_word", defArgs (top 36), defBody (top 36), defScope (top 36), [], []⟩
def d__law_attempted : He.DefD := ⟨("_law_attempted", none), "_law_attempted", "_law_attempted", defArgs (top 37), defBody (top 37), defScope (top 37), [], []⟩
def d_law : He.DefD := ⟨("law", none), "law", "law", defArgs (top 38), defBody (top 38), defScope (top 38), [], []⟩
def d_Desk___eq__ : He.DefD := ⟨("Desk", some "__eq__"), "__eq__", "Desk.__eq__", defArgs (mem (top 27) 17), defBody (mem (top 27) 17), defScope (mem (top 27) 17), [], []⟩
def d_Desk_init : He.DefD := ⟨("Desk", some "__init__"), "__init__", "Desk.__init__", defArgs (mem (top 27) 1), defBody (mem (top 27) 1), defScope (mem (top 27) 1), [], []⟩
def d_Desk___len__ : He.DefD := ⟨("Desk", some "__len__"), "__len__", "Desk.__len__", defArgs (mem (top 27) 14), defBody (mem (top 27) 14), defScope (mem (top 27) 14), [], []⟩
def d_Desk_attempt : He.DefD := ⟨("Desk", some "attempt"), "attempt", "Desk.attempt", defArgs (mem (top 27) 10), defBody (mem (top 27) 10), defScope (mem (top 27) 10), [], []⟩
def d_Desk_free : He.DefD := ⟨("Desk", some "free"), "free", "Desk.free", defArgs (mem (top 27) 7), defBody (mem (top 27) 7), defScope (mem (top 27) 7), [], []⟩
def d_Desk_held : DefX := ⟨fun K => prA K (He.ga K "Desk") "held", "held", "Desk.held", defArgs (mem (top 27) 3), defBody (mem (top 27) 3), defScope (mem (top 27) 3), []⟩
def d_Desk_hold : He.DefD := ⟨("Desk", some "hold"), "hold", "Desk.hold", defArgs (mem (top 27) 6), defBody (mem (top 27) 6), defScope (mem (top 27) 6), [], []⟩
def d_Desk_keep : He.DefD := ⟨("Desk", some "keep"), "keep", "Desk.keep", defArgs (mem (top 27) 4), defBody (mem (top 27) 4), defScope (mem (top 27) 4), [], []⟩
def d_Desk_know : He.DefD := ⟨("Desk", some "know"), "know", "Desk.know", defArgs (mem (top 27) 5), defBody (mem (top 27) 5), defScope (mem (top 27) 5), [], []⟩
def d_Desk_lines : He.DefD := ⟨("Desk", some "lines"), "lines", "Desk.lines", defArgs (mem (top 27) 11), defBody (mem (top 27) 11), defScope (mem (top 27) 11), [], []⟩
def d_Desk_model : DefX := ⟨fun K => prA K (He.ga K "Desk") "model", "model", "Desk.model", defArgs (mem (top 27) 2), defBody (mem (top 27) 2), defScope (mem (top 27) 2), []⟩
def d_Desk_undo : He.DefD := ⟨("Desk", some "undo"), "undo", "Desk.undo", defArgs (mem (top 27) 9), defBody (mem (top 27) 9), defScope (mem (top 27) 9), [], []⟩
def d_Trial___enter__ : He.DefD := ⟨("Trial", some "__enter__"), "__enter__", "Trial.__enter__", defArgs (mem (top 26) 1), defBody (mem (top 26) 1), defScope (mem (top 26) 1), [], []⟩
def d_Trial___exit__ : He.DefD := ⟨("Trial", some "__exit__"), "__exit__", "Trial.__exit__", defArgs (mem (top 26) 2), defBody (mem (top 26) 2), defScope (mem (top 26) 2), [], []⟩
def d_Trial_init : He.DefD := ⟨("Trial", some "__init__"), "__init__", "Trial.__init__", defArgs (mem (top 26) 0), defBody (mem (top 26) 0), defScope (mem (top 26) 0), [], []⟩
def d_TooMany_init : DefX := ⟨fun K => iniA K (He.ga K "TooMany"), "__init__", "TooMany.__init__", defArgs (mem (top 8) 0), defBody (mem (top 8) 0), defScope (mem (top 8) 0), [("__class__" : PySem.Str)]⟩
def xsL : List DefX := [d_Desk_held, d_Desk_model, d_TooMany_init]
def fnL : List He.DefD := [d__wall, d_is_within, d_is_known_sign, d_is_row, d_is_right_model, d_is_place, d_need_model, d_need_quantity, d_need_place, d_unknown_places, d_with_sign, d__law_source, d__law_pick, d__law_chosen, d__law_drawn_model, d__law_look, d__law_good, d__law_bad, d__law_word, d__law_attempted, d_law, d_Desk___eq__, d_Desk_init, d_Desk___len__, d_Desk_attempt, d_Desk_free, d_Desk_hold, d_Desk_keep, d_Desk_know, d_Desk_lines, d_Desk_undo, d_Trial___enter__, d_Trial___exit__, d_Trial_init]
def fa0 : List He.Fa := [.glo "_wall", .glo "is_within", .glo "is_known_sign", .glo "is_row", .glo "is_right_model", .glo "is_place", .glo "need_model", .glo "need_quantity", .glo "need_place", .glo "unknown_places", .glo "with_sign", .glo "_law_source", .glo "_law_pick", .glo "_law_chosen", .glo "_law_drawn_model", .glo "_law_look", .glo "_law_good", .glo "_law_bad", .glo "_law_word", .glo "_law_attempted", .glo "law", .cls "Desk", .cls "Trial", .glo "Desk", .glo "Trial", .glo "TooMany", .noat "Desk" "now", .noat "Desk" "past", .noat "Trial" "desk", .noat "Trial" "now"]
def fa1 : List He.Fa := [.noat "Trial" "past", .mkr "Desk", .mkr "Trial", .meth "Desk" "__eq__", .meth "Desk" "__len__", .meth "Desk" "attempt", .meth "Desk" "free", .meth "Desk" "hold", .meth "Desk" "keep", .meth "Desk" "know", .meth "Desk" "lines", .meth "Desk" "undo", .meth "Trial" "__enter__", .meth "Trial" "__exit__", .glo "InvalidPlace", .glo "NothingToUndo", .glo "PushError", .exm "InvalidPlace" "InvalidPlace" true, .exm "NothingToUndo" "InvalidPlace" false, .exm "NothingToUndo" "NothingToUndo" true, .free "super", .free "all", .free "bool", .free "enumerate", .free "int", .free "isinstance", .free "len", .free "list", .free "max", .free "min"]
def fa2 : List He.Fa := [.free "range", .free "sorted", .free "str", .free "sum", .free "tuple", .glo "KNOWN_SIGNS", .int "MOST_CALLS" (60), .int "MOST_QUANTITIES" (4), .int "MOST_UNKNOWN" (4), .str "UNKNOWN" "?", .exc "InvalidModel", .glo "InvalidModel", .exc "InvalidPlace", .exc "InvalidQuantity", .glo "InvalidQuantity", .exc "InvalidSign", .glo "InvalidSign", .exc "NothingToUndo"]
def faL : List He.Fa := fa0 ++ fa1 ++ fa2
def lo0 : List PySem.Str := ["_wall", "PushError", "InvalidModel", "InvalidQuantity", "InvalidSign", "InvalidPlace", "NothingToUndo", "TooMany", "MOST_QUANTITIES", "MOST_UNKNOWN", "KNOWN_SIGNS", "UNKNOWN", "is_within", "is_known_sign", "is_row", "is_right_model", "is_place", "need_model", "need_quantity", "need_place", "unknown_places", "with_sign", "MOST_CALLS", "Trial", "Desk", "_law_source", "_law_pick", "_law_chosen", "_law_drawn_model", "_law_look"]
def lo1 : List PySem.Str := ["_law_good", "_law_bad", "_law_word", "_law_attempted"]
def loL : List PySem.Str := lo0 ++ lo1
theorem tabCell_or (t : Str × Str) : tabCell t = .tab t.1 t.2 ∨ ∃ l n, tabCell t = .tabG (some t.1) t.2 l n none := by
  unfold tabCell
  split
  · exact .inr ⟨_, _, rfl⟩
  · exact .inl rfl
def tfL : List He.Defn := [("_law_bad", none), ("_law_attempted", none), ("law", none)]
def tabsN (K : PySem.W.Frag) : List Addr := tabsL.map fun t => (He.cT K (t.1, none)).2
def exL (K : PySem.W.Frag) : Bool := (He.tupB K "KNOWN_SIGNS" [.str "+", .str "-", .str "0"] && (fnOkB K (prA K (He.ga K "Desk") "held") "Desk.held" && (propB K (He.ga K "Desk") "held" && (fnOkB K (prA K (He.ga K "Desk") "model") "Desk.model" && (propB K (He.ga K "Desk") "model" && (supB PySem.Challenge.pw_signpushes_k73_whole_attempts_at_desks.main.file K (He.ga K "TooMany") && (hanB K (He.ga K "TooMany") "limit" && (neqB K (He.ga K "Desk") && (isiB K (He.ga K "Desk") && decide (tabsN K).Nodup)))))))))
abbrev R : PySem.W.OpenRow := PySem.W.OpenLaw.row PySem.Challenge.rw_signpushes_k73_whole_attempts_at_desks
abbrev hk : PySem.W.Hook := DX.hookY 6 faL fnL [] tfL exL xsL
def ob (s : PySem.W.SharedT) : DX.AlY := DX.obsY 6 faL fnL [] tfL exL xsL (HandSHeadRun.getT s)
theorem ob_eq (s : PySem.W.SharedT) : ob s = hk.obs s.abs := DX.obsY_eq (HandSHeadRun.getT_eq s)
theorem run (w : World) : HandSHeadRun.RunEq R (PySem.W.view R.prog [38]) hk ob 8000 loL w := by
  intro os
  kernel_rfl
theorem fx_of {w w2 : World} {K : PySem.W.Frag} {mg : Str → Option Value} {base h : Heap} (X : K.In h) (G : h.Ns mainGlobals mg) (cy : SaysY faL fnL [] tfL exL xsL w2 h K) (TB : ∀ t ∈ tfL, LamX.TabB base mg (He.cT K t).1 (He.cT K t).2) : Fx (PySem.Challenge.rw_signpushes_k73_whole_attempts_at_desks).prog w K mg base := by
  have c : He.SaysX faL fnL [] tfL exL w2 h K := cy.x
  have c1 : He.SaysD faL fnL K := congrArg (fun z : He.AlT => z.1) c.t
  have F : ∀ f ∈ faL, f.ok K = true := fun f hf => c1.facts hf
  have Dd : ∀ d ∈ fnL, ∃ fd, FunD K d.name d.qual d.params d.body d.scope (d.dvs K) (d.kws K) (He.fAd K d.at_) fd := fun d hd => c1.defs hd
  have e0 : exL K = true := c.more
  obtain ⟨x0, e1⟩ := band e0
  obtain ⟨x1, e2⟩ := band e1
  obtain ⟨x2, e3⟩ := band e2
  obtain ⟨x3, e4⟩ := band e3
  obtain ⟨x4, e5⟩ := band e4
  obtain ⟨x5, e6⟩ := band e5
  obtain ⟨x6, e7⟩ := band e6
  obtain ⟨x7, e8⟩ := band e7
  obtain ⟨x8, e9⟩ := band e8
  exact {
    b_all := He.free_ok X G (F (.free "all") (by simp [faL, fa0, fa1, fa2]))
    b_bool := He.free_ok X G (F (.free "bool") (by simp [faL, fa0, fa1, fa2]))
    b_enumerate := He.free_ok X G (F (.free "enumerate") (by simp [faL, fa0, fa1, fa2]))
    b_int := He.free_ok X G (F (.free "int") (by simp [faL, fa0, fa1, fa2]))
    b_isinstance := He.free_ok X G (F (.free "isinstance") (by simp [faL, fa0, fa1, fa2]))
    b_len := He.free_ok X G (F (.free "len") (by simp [faL, fa0, fa1, fa2]))
    b_list := He.free_ok X G (F (.free "list") (by simp [faL, fa0, fa1, fa2]))
    b_max := He.free_ok X G (F (.free "max") (by simp [faL, fa0, fa1, fa2]))
    b_min := He.free_ok X G (F (.free "min") (by simp [faL, fa0, fa1, fa2]))
    b_range := He.free_ok X G (F (.free "range") (by simp [faL, fa0, fa1, fa2]))
    b_sorted := He.free_ok X G (F (.free "sorted") (by simp [faL, fa0, fa1, fa2]))
    b_str := He.free_ok X G (F (.free "str") (by simp [faL, fa0, fa1, fa2]))
    b_sum := He.free_ok X G (F (.free "sum") (by simp [faL, fa0, fa1, fa2]))
    b_tuple := He.free_ok X G (F (.free "tuple") (by simp [faL, fa0, fa1, fa2]))
    g__wall := He.glo_ok X G (F (.glo "_wall") (by simp [faL, fa0, fa1, fa2]))
    g_is_within := He.glo_ok X G (F (.glo "is_within") (by simp [faL, fa0, fa1, fa2]))
    g_is_known_sign := He.glo_ok X G (F (.glo "is_known_sign") (by simp [faL, fa0, fa1, fa2]))
    g_is_row := He.glo_ok X G (F (.glo "is_row") (by simp [faL, fa0, fa1, fa2]))
    g_is_right_model := He.glo_ok X G (F (.glo "is_right_model") (by simp [faL, fa0, fa1, fa2]))
    g_is_place := He.glo_ok X G (F (.glo "is_place") (by simp [faL, fa0, fa1, fa2]))
    g_need_model := He.glo_ok X G (F (.glo "need_model") (by simp [faL, fa0, fa1, fa2]))
    g_need_quantity := He.glo_ok X G (F (.glo "need_quantity") (by simp [faL, fa0, fa1, fa2]))
    g_need_place := He.glo_ok X G (F (.glo "need_place") (by simp [faL, fa0, fa1, fa2]))
    g_unknown_places := He.glo_ok X G (F (.glo "unknown_places") (by simp [faL, fa0, fa1, fa2]))
    g_with_sign := He.glo_ok X G (F (.glo "with_sign") (by simp [faL, fa0, fa1, fa2]))
    g__law_source := He.glo_ok X G (F (.glo "_law_source") (by simp [faL, fa0, fa1, fa2]))
    g__law_pick := He.glo_ok X G (F (.glo "_law_pick") (by simp [faL, fa0, fa1, fa2]))
    g__law_chosen := He.glo_ok X G (F (.glo "_law_chosen") (by simp [faL, fa0, fa1, fa2]))
    g__law_drawn_model := He.glo_ok X G (F (.glo "_law_drawn_model") (by simp [faL, fa0, fa1, fa2]))
    g__law_look := He.glo_ok X G (F (.glo "_law_look") (by simp [faL, fa0, fa1, fa2]))
    g__law_good := He.glo_ok X G (F (.glo "_law_good") (by simp [faL, fa0, fa1, fa2]))
    g__law_bad := He.glo_ok X G (F (.glo "_law_bad") (by simp [faL, fa0, fa1, fa2]))
    g__law_word := He.glo_ok X G (F (.glo "_law_word") (by simp [faL, fa0, fa1, fa2]))
    g__law_attempted := He.glo_ok X G (F (.glo "_law_attempted") (by simp [faL, fa0, fa1, fa2]))
    g_law := He.glo_ok X G (F (.glo "law") (by simp [faL, fa0, fa1, fa2]))
    d__wall := Dd d__wall (by simp [fnL])
    d_is_within := Dd d_is_within (by simp [fnL])
    d_is_known_sign := Dd d_is_known_sign (by simp [fnL])
    d_is_row := Dd d_is_row (by simp [fnL])
    d_is_right_model := Dd d_is_right_model (by simp [fnL])
    d_is_place := Dd d_is_place (by simp [fnL])
    d_need_model := Dd d_need_model (by simp [fnL])
    d_need_quantity := Dd d_need_quantity (by simp [fnL])
    d_need_place := Dd d_need_place (by simp [fnL])
    d_unknown_places := Dd d_unknown_places (by simp [fnL])
    d_with_sign := Dd d_with_sign (by simp [fnL])
    d__law_source := Dd d__law_source (by simp [fnL])
    d__law_pick := Dd d__law_pick (by simp [fnL])
    d__law_chosen := Dd d__law_chosen (by simp [fnL])
    d__law_drawn_model := Dd d__law_drawn_model (by simp [fnL])
    d__law_look := Dd d__law_look (by simp [fnL])
    d__law_good := Dd d__law_good (by simp [fnL])
    d__law_bad := Dd d__law_bad (by simp [fnL])
    d__law_word := Dd d__law_word (by simp [fnL])
    d__law_attempted := Dd d__law_attempted (by simp [fnL])
    d_law := Dd d_law (by simp [fnL])
    v_KNOWN_SIGNS := He.glo_ok X G (F (.glo "KNOWN_SIGNS") (by simp [faL, fa0, fa1, fa2]))
    r_KNOWN_SIGNS := fun W H => ⟨_, _, rfl, .inr (He.tupB_ok x0 _), by decide, ⟨_, _, rfl, ⟨rfl, rfl⟩, ⟨_, _, rfl, ⟨rfl, rfl⟩, ⟨_, _, rfl, ⟨rfl, rfl⟩, rfl⟩⟩⟩⟩
    v_MOST_CALLS := He.int_ok X G (F (.int "MOST_CALLS" (60)) (by simp [faL, fa0, fa1, fa2]))
    v_MOST_QUANTITIES := He.int_ok X G (F (.int "MOST_QUANTITIES" (4)) (by simp [faL, fa0, fa1, fa2]))
    v_MOST_UNKNOWN := He.int_ok X G (F (.int "MOST_UNKNOWN" (4)) (by simp [faL, fa0, fa1, fa2]))
    v_UNKNOWN := He.str_ok X G (F (.str "UNKNOWN" "?") (by simp [faL, fa0, fa1, fa2]))
    e_InvalidModel := errC_of (F (.exc "InvalidModel") (by simp [faL, fa0, fa1, fa2])) (He.glo_ok X G (F (.glo "InvalidModel") (by simp [faL, fa0, fa1, fa2])))
    e_InvalidPlace := errC_of (F (.exc "InvalidPlace") (by simp [faL, fa0, fa1, fa2])) (He.glo_ok X G (F (.glo "InvalidPlace") (by simp [faL, fa0, fa1, fa2])))
    e_InvalidQuantity := errC_of (F (.exc "InvalidQuantity") (by simp [faL, fa0, fa1, fa2])) (He.glo_ok X G (F (.glo "InvalidQuantity") (by simp [faL, fa0, fa1, fa2])))
    e_InvalidSign := errC_of (F (.exc "InvalidSign") (by simp [faL, fa0, fa1, fa2])) (He.glo_ok X G (F (.glo "InvalidSign") (by simp [faL, fa0, fa1, fa2])))
    e_NothingToUndo := errC_of (F (.exc "NothingToUndo") (by simp [faL, fa0, fa1, fa2])) (He.glo_ok X G (F (.glo "NothingToUndo") (by simp [faL, fa0, fa1, fa2])))
    k_Desk := He.cls_ok (F (.cls "Desk") (by simp [faL, fa0, fa1, fa2]))
    k_Trial := He.cls_ok (F (.cls "Trial") (by simp [faL, fa0, fa1, fa2]))
    fl_Desk_now := ⟨He.cls_ok (F (.cls "Desk") (by simp [faL, fa0, fa1, fa2])), He.noat_ok (F (.noat "Desk" "now") (by simp [faL, fa0, fa1, fa2]))⟩
    fl_Desk_past := ⟨He.cls_ok (F (.cls "Desk") (by simp [faL, fa0, fa1, fa2])), He.noat_ok (F (.noat "Desk" "past") (by simp [faL, fa0, fa1, fa2]))⟩
    fl_Trial_desk := ⟨He.cls_ok (F (.cls "Trial") (by simp [faL, fa0, fa1, fa2])), He.noat_ok (F (.noat "Trial" "desk") (by simp [faL, fa0, fa1, fa2]))⟩
    fl_Trial_now := ⟨He.cls_ok (F (.cls "Trial") (by simp [faL, fa0, fa1, fa2])), He.noat_ok (F (.noat "Trial" "now") (by simp [faL, fa0, fa1, fa2]))⟩
    fl_Trial_past := ⟨He.cls_ok (F (.cls "Trial") (by simp [faL, fa0, fa1, fa2])), He.noat_ok (F (.noat "Trial" "past") (by simp [faL, fa0, fa1, fa2]))⟩
    g_Desk := He.glo_ok X G (F (.glo "Desk") (by simp [faL, fa0, fa1, fa2]))
    g_Trial := He.glo_ok X G (F (.glo "Trial") (by simp [faL, fa0, fa1, fa2]))
    mk_Desk := He.mkr_ok (F (.mkr "Desk") (by simp [faL, fa0, fa1, fa2]))
    mk_Trial := He.mkr_ok (F (.mkr "Trial") (by simp [faL, fa0, fa1, fa2]))
    d_Desk___eq__ := Dd d_Desk___eq__ (by simp [fnL])
    mt_Desk___eq__ := He.meth_ok (F (.meth "Desk" "__eq__") (by simp [faL, fa0, fa1, fa2]))
    d_Desk_init := Dd d_Desk_init (by simp [fnL])
    d_Desk___len__ := Dd d_Desk___len__ (by simp [fnL])
    mt_Desk___len__ := He.meth_ok (F (.meth "Desk" "__len__") (by simp [faL, fa0, fa1, fa2]))
    d_Desk_attempt := Dd d_Desk_attempt (by simp [fnL])
    mt_Desk_attempt := He.meth_ok (F (.meth "Desk" "attempt") (by simp [faL, fa0, fa1, fa2]))
    d_Desk_free := Dd d_Desk_free (by simp [fnL])
    mt_Desk_free := He.meth_ok (F (.meth "Desk" "free") (by simp [faL, fa0, fa1, fa2]))
    d_Desk_held := funD_of (d := d_Desk_held) (cy.def_ (d := d_Desk_held) (by simp [xsL])) rfl x1
    pr_Desk_held := propB_ok x2
    d_Desk_hold := Dd d_Desk_hold (by simp [fnL])
    mt_Desk_hold := He.meth_ok (F (.meth "Desk" "hold") (by simp [faL, fa0, fa1, fa2]))
    d_Desk_keep := Dd d_Desk_keep (by simp [fnL])
    mt_Desk_keep := He.meth_ok (F (.meth "Desk" "keep") (by simp [faL, fa0, fa1, fa2]))
    d_Desk_know := Dd d_Desk_know (by simp [fnL])
    mt_Desk_know := He.meth_ok (F (.meth "Desk" "know") (by simp [faL, fa0, fa1, fa2]))
    d_Desk_lines := Dd d_Desk_lines (by simp [fnL])
    mt_Desk_lines := He.meth_ok (F (.meth "Desk" "lines") (by simp [faL, fa0, fa1, fa2]))
    d_Desk_model := funD_of (d := d_Desk_model) (cy.def_ (d := d_Desk_model) (by simp [xsL])) rfl x3
    pr_Desk_model := propB_ok x4
    d_Desk_undo := Dd d_Desk_undo (by simp [fnL])
    mt_Desk_undo := He.meth_ok (F (.meth "Desk" "undo") (by simp [faL, fa0, fa1, fa2]))
    d_Trial___enter__ := Dd d_Trial___enter__ (by simp [fnL])
    mt_Trial___enter__ := He.meth_ok (F (.meth "Trial" "__enter__") (by simp [faL, fa0, fa1, fa2]))
    d_Trial___exit__ := Dd d_Trial___exit__ (by simp [fnL])
    mt_Trial___exit__ := He.meth_ok (F (.meth "Trial" "__exit__") (by simp [faL, fa0, fa1, fa2]))
    d_Trial_init := Dd d_Trial_init (by simp [fnL])
    ef_TooMany := errF_mk (x := "TooMany") (d := d_TooMany_init) (f := "limit") x5 x6 (cy.def_ (d := d_TooMany_init) (by simp [xsL])) rfl rfl (by rfl) rfl (fun _ => rfl) rfl rfl rfl rfl rfl rfl rfl (by decide) (by decide) (by decide) rfl rfl rfl rfl (fun _ _ _ _ _ _ _ us hl => match us, hl with | [_, _], _ => rfl) (He.glo_ok X G (F (.glo "TooMany") (by simp [faL, fa0, fa1, fa2]))) (He.free_ok X G (F (.free "super") (by simp [faL, fa0, fa1, fa2]))) (by decide)
    nq_Desk := neqB_ok x7
    ii_Desk := isiB_ok x8 (He.cls_ok (F (.cls "Desk") (by simp [faL, fa0, fa1, fa2])))
    we := ⟨He.glo_ok X G (F (.glo "InvalidPlace") (by simp [faL, fa0, fa1, fa2])), He.glo_ok X G (F (.glo "NothingToUndo") (by simp [faL, fa0, fa1, fa2])), He.glo_ok X G (F (.glo "PushError") (by simp [faL, fa0, fa1, fa2])), He.exm_ok (F (.exm "InvalidPlace" "InvalidPlace" true) (by simp [faL, fa0, fa1, fa2])), He.exm_ok (F (.exm "NothingToUndo" "InvalidPlace" false) (by simp [faL, fa0, fa1, fa2])), He.exm_ok (F (.exm "NothingToUndo" "NothingToUndo" true) (by simp [faL, fa0, fa1, fa2]))⟩
    t__law_bad := TB ("_law_bad", none) (by simp [tfL])
    t__law_attempted := TB ("_law_attempted", none) (by simp [tfL])
    t_law := TB ("law", none) (by simp [tfL]) }
theorem law_at {w : World} {K : PySem.W.Frag} {mg : Str → Option Value} {h : Heap} (KX : K.In h) (G : h.Ns mainGlobals mg) (cy : SaysY faL fnL [] tfL exL xsL w h K) : ∃ K2 : PySem.W.Frag, K2.In h ∧ LamX.LawAtS PySem.Challenge.rw_signpushes_k73_whole_attempts_at_desks w K2 (L2N.CX (PySem.Challenge.rw_signpushes_k73_whole_attempts_at_desks).prog w) 14 63 "script" mg (He.ga K "law") h := by
  have c : He.SaysX faL fnL [] tfL exL w h K := cy.x
  have c1 : He.SaysD faL fnL K := congrArg (fun z : He.AlT => z.1) c.t
  obtain ⟨fd0, F0⟩ := c1.defs (d := d_law) (by simp [fnL])
  obtain ⟨oc, od, dV, kV, doc, pm, an, cdv, ct, osl, efd, lk, hcd, hD, hK⟩ := F0.ex
  have nd : (tabsN K).Nodup := by
    have e0 : exL K = true := c.more
    obtain ⟨x0, e1⟩ := band e0
    obtain ⟨x1, e2⟩ := band e1
    obtain ⟨x2, e3⟩ := band e2
    obtain ⟨x3, e4⟩ := band e3
    obtain ⟨x4, e5⟩ := band e4
    obtain ⟨x5, e6⟩ := band e5
    obtain ⟨x6, e7⟩ := band e6
    obtain ⟨x7, e8⟩ := band e7
    obtain ⟨x8, e9⟩ := band e8
    exact of_decide_eq_true e9
  refine ⟨K, KX, fd0, tfL.map (He.cT K), SpD K 1 (mk1 m_law), fun p hp => ?_, fun p hp => ?_, fun p hp => ?_, fun s u => FunD.bindsA (ps := ["script"]) F0 (fun _ _ _ _ _ _ us hl => match us, hl with | [_], _ => rfl) s [u] rfl, fun H a ns hl hb hT hS => ?_, fun base KB G' TB => ?_⟩
  · obtain ⟨t, ht, rfl⟩ := List.mem_map.mp hp
    exact c.empty t ht
  · obtain ⟨t, ht, rfl⟩ := List.mem_map.mp hp
    exact c.out t ht
  · obtain ⟨t, ht, rfl⟩ := List.mem_map.mp hp
    exact PySem.W.codeHd_of_K KX (c.hd t ht)
  · refine sp_startX (cf := tabCell) (tabs := tabsL) nd (fun t ht => hT _ (List.mem_map.mpr ⟨(t.1, none), ?_, rfl⟩)) hS (fun t _ => tabCell_or t) (law_true ns hl hb)
    simp only [tabsL, List.mem_cons, List.not_mem_nil, or_false] at ht
    rcases ht with rfl | rfl | rfl <;> simp [tfL]
  · have fx : Fx (PySem.Challenge.rw_signpushes_k73_whole_attempts_at_desks).prog w K mg base := fx_of KX G cy fun t ht => TB _ (List.mem_map.mpr ⟨t, ht, rfl⟩)
    exact law_fn fx F0

end My
open PySem PySem.W PySem.Calls PyProof.Rows
theorem PySem.Challenge.cw_signpushes_k73_whole_attempts_at_desks_holds : PySem.Challenge.rw_signpushes_k73_whole_attempts_at_desks.Holds := by
  w_on; o_law
  refine HandSHeadRun.head_any (r := OpenLaw.row PySem.Challenge.rw_signpushes_k73_whole_attempts_at_desks) (q := view (OpenLaw.row PySem.Challenge.rw_signpushes_k73_whole_attempts_at_desks).prog [38]) (H := My.hk) (ob := My.ob) (M := 8000) (loose := My.loL) (d := HandSHeadRun.topDef (OpenLaw.row PySem.Challenge.rw_signpushes_k73_whole_attempts_at_desks).prog 38) (kwd := []) My.ob_eq (by kernel_rfl) (fun s => by kernel_rfl) My.run (by kernel_rfl) (by kernel_rfl) (by kernel_rfl) (by rfl) (by first | assumption | decide +kernel) (by decide +kernel) ⟨rfl, rfl, rfl, rfl, rfl, by decide +kernel⟩ ?hw ?hc
  case hw => w_witness2
  case hc =>
    refine LamX.walk_ofTsE (l := PySem.Challenge.rw_signpushes_k73_whole_attempts_at_desks) (n := 63) (k := 14) (x := "script") (CX := fun w => L2N.CX (PySem.Challenge.rw_signpushes_k73_whole_attempts_at_desks).prog w) rfl (by decide) (by kernel_rfl) ⟨rfl, by decide, by decide⟩ ?F (fun w H s e s' z => by
      obtain ⟨_, _, _, _, _, _, _, _, _, _, _, _, z⟩ := z
      exact z)
    intro w mg fa h Y G hmg0
    obtain ⟨K, KX, cy⟩ := Y
    have hmg : mg ("law" : PySem.Str) = some (.ref fa) := by
      have e : (HandSHeadRun.topDef (OpenLaw.row PySem.Challenge.rw_signpushes_k73_whole_attempts_at_desks).prog 38).name = ("law" : PySem.Str) := by kernel_rfl
      rw [← e]
      exact hmg0
    have c1 : He.SaysD My.faL My.fnL K := congrArg (fun z : He.AlT => z.1) cy.x.t
    have e := hmg.symm.trans (He.glo_ok KX G (c1.facts (f := .glo "law") (by simp [My.faL, My.fa0, My.fa1, My.fa2])))
    cases e
    exact My.law_at KX G cy
