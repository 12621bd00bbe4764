import PyProof.Rows.All
import Wide.All
import OpenK.AllK
import Wide.FinOn
import Lean
import PySem.Challenge.RW_xm0990_01
set_option Elab.async false
set_option linter.unusedVariables false
set_option linter.unusedSimpArgs false
set_option maxRecDepth 100000
set_option maxHeartbeats 8000000
section
open PySem PySem.W PyProof.Rows
namespace Mine
/-! the program's heap as a constant of this name space: the head's own tactic lays it (Mine.K0.heap_1); nothing is proved here -/
def Laid : Prop := True
def Kept : Prop := True
theorem laid_of (h : PySem.Challenge.rw_xm0990_01.row.Holds) : Laid = True := rfl
theorem kept_of : Kept = True := rfl
theorem K0 (PySem : True) : Laid ∧ Kept := by
  simp (disch := k_head) only [laid_of, kept_of]
  exact ⟨trivial, trivial⟩
end Mine
end
namespace Mine
open PySem PySem.W PySem.Calls PyProof.Rows

/-! ## abstract data -/
inductive Cls where
  | octets | fheader | bhead | fspan

def Cls.names : Cls → List Str
  | .octets => [Str.ofString "data", Str.ofString "stop", Str.ofString "place"]
  | .fheader => [Str.ofString "window", Str.ofString "size", Str.ofString "ident", Str.ofString "checksum", Str.ofString "single"]
  | .bhead => [Str.ofString "last", Str.ofString "kind", Str.ofString "size"]
  | .fspan => [Str.ofString "begin", Str.ofString "end", Str.ofString "header", Str.ofString "blocks"]

def Cls.same : Cls → Cls → Bool
  | .octets, .octets => true
  | .fheader, .fheader => true
  | .bhead, .bhead => true
  | .fspan, .fspan => true
  | _, _ => false
theorem Cls.eq_of_same : ∀ {a b : Cls}, a.same b = true → a = b := by
  intro a b h
  cases a <;> cases b <;> first | rfl | cases h

inductive Exn where
  | short | header | block | trailing | older | badarg

inductive Ty where
  | int | bool | str
def Ty.name : Ty → String
  | .int => "int"
  | .bool => "bool"
  | .str => "str"

inductive D where
  | none
  | bool (b : Bool)
  | int (i : Int)
  | str (x : Str)
  | bytes (l : List UInt8)
  | tup (l : List D)
  | list (l : List D)
  | inst (c : Cls) (l : List D)
  | hl (k : Nat)
  | hi (k : Nat) (c : Cls)
  | ty (t : Ty)
  | val (v : Value)

inductive MO where
  | list (l : List D)
  | inst (c : Cls) (l : List D)
  | dead

structure Gr where
  prog : Program
  w : World
  K : Frag
  h₀ : Heap
  mg : Str → Option Value
  mb : Str → Option Value
  tabs : List (Addr × Addr)
  tq : Addr → Str
  cA : Cls → Addr
  eA : Exn → Addr

abbrev Gr.M (G : Gr) : Model := model G.prog G.w
def Gr.tA (G : Gr) : List Addr := G.tabs.map (·.2)

def mkEs (P : Params) : List Str → List Tok → List Value → List DictEntry
  | n :: ns, t :: ts, v :: vs => ⟨PyData.keyHash P n, .str n t, v⟩ :: mkEs P ns ts vs
  | _, _, _ => []

/-! ## what a value stands for -/
inductive RSeq (h : Heap) (X : List Addr) (o : Array Value → Nat → Obj) (P : List Value → Prop) : Value → Prop
  | mk {a : Addr} {vs : List Value} {n : Nat} : h.get? a = some (o vs.toArray n) → a ∉ X → P vs → RSeq h X o P (.ref a)
inductive RInst (G : Gr) (h : Heap) (X : List Addr) (c : Cls) (P : List Value → Prop) : Value → Prop
  | mk {x dx : Addr} {n : Nat} {ts : List Tok} {vs : List Value} : h.get? x = some (instObj (G.cA c) dx) → h.get? dx = some (dictOf (mkEs G.w.params c.names ts vs) n) → x ∉ X → dx ∉ X →
      ts.length = vs.length → P vs → vs.length = c.names.length → RInst G h X c P (.ref x)
inductive RHl (θ : List Addr) (k : Nat) : Value → Prop
  | mk {a : Addr} : θ[k]? = some a → RHl θ k (.ref a)
inductive RHi (G : Gr) (h : Heap) (θ X : List Addr) (k : Nat) (c : Cls) : Value → Prop
  | mk {x dx : Addr} : θ[k]? = some dx → h.get? x = some (instObj (G.cA c) dx) → x ∉ X → RHi G h θ X k c (.ref x)
inductive RCons (P : Value → Prop) (Q : List Value → Prop) : List Value → Prop
  | mk {v : Value} {vs : List Value} : P v → Q vs → RCons P Q (v :: vs)
def tupOf (vs : Array Value) (n : Nat) : Obj := { cls := .type "tuple", data := .seq vs n }
mutual
def Rep (G : Gr) (h : Heap) (θ X : List Addr) : Value → D → Prop
  | v, .none => v = .none
  | v, .bool b => v = .bool b
  | v, .int i => ∃ t, v = .int i t
  | v, .str x => ∃ t, v = .str x t
  | v, .bytes l => ∃ t, v = .bytes l.toArray t
  | v, .tup ds => RSeq h X tupOf (fun vs => Reps G h θ X vs ds) v
  | v, .list ds => RSeq h X listOf (fun vs => Reps G h θ X vs ds) v
  | v, .inst c ds => RInst G h X c (fun vs => Reps G h θ X vs ds) v
  | v, .hl k => RHl θ k v
  | v, .hi k c => RHi G h θ X k c v
  | v, .ty t => v = .type t.name
  | v, .val w => v = w
def Reps (G : Gr) (h : Heap) (θ X : List Addr) : List Value → List D → Prop
  | vs, [] => vs = []
  | vs, d :: ds => RCons (fun v => Rep G h θ X v d) (fun vs => Reps G h θ X vs ds) vs
end
section
variable {G : Gr} {h : Heap} {θ X : List Addr}
theorem Rep.none : Rep G h θ X .none .none := rfl
theorem Rep.bool (b : Bool) : Rep G h θ X (.bool b) (.bool b) := rfl
theorem Rep.int (i : Int) (t : Tok) : Rep G h θ X (.int i t) (.int i) := ⟨t, rfl⟩
theorem Rep.str (x : Str) (t : Tok) : Rep G h θ X (.str x t) (.str x) := ⟨t, rfl⟩
theorem Rep.bytes (l : List UInt8) (t : Tok) : Rep G h θ X (.bytes l.toArray t) (.bytes l) := ⟨t, rfl⟩
theorem Rep.tup {a : Addr} {vs : List Value} {n : Nat} {ds : List D} (e : h.get? a = some ({ cls := .type "tuple", data := .seq vs.toArray n } : Obj)) (x : a ∉ X) (r : Reps G h θ X vs ds) : Rep G h θ X (.ref a) (.tup ds) := .mk e x r
theorem Rep.list {a : Addr} {vs : List Value} {n : Nat} {ds : List D} (e : h.get? a = some (listOf vs.toArray n)) (x : a ∉ X) (r : Reps G h θ X vs ds) : Rep G h θ X (.ref a) (.list ds) := .mk e x r
theorem Rep.inst {x dx : Addr} {c : Cls} {n : Nat} {ts : List Tok} {vs : List Value} {ds : List D} (e : h.get? x = some (instObj (G.cA c) dx)) (e' : h.get? dx = some (dictOf (mkEs G.w.params c.names ts vs) n)) (a : x ∉ X) (b : dx ∉ X)
    (l : ts.length = vs.length) (r : Reps G h θ X vs ds) (z : vs.length = c.names.length) : Rep G h θ X (.ref x) (.inst c ds) := .mk e e' a b l r z
theorem Rep.hl {k : Nat} {a : Addr} (e : θ[k]? = some a) : Rep G h θ X (.ref a) (.hl k) := .mk e
theorem Rep.hi {k : Nat} {x dx : Addr} {c : Cls} (e : θ[k]? = some dx) (e' : h.get? x = some (instObj (G.cA c) dx)) (a : x ∉ X) : Rep G h θ X (.ref x) (.hi k c) := .mk e e' a
theorem Rep.val (v : Value) : Rep G h θ X v (.val v) := rfl
theorem Rep.ty (t : Ty) : Rep G h θ X (.type t.name) (.ty t) := rfl
theorem Reps.nil : Reps G h θ X [] [] := rfl
theorem Reps.cons {v : Value} {d : D} {vs : List Value} {ds : List D} (a : Rep G h θ X v d) (b : Reps G h θ X vs ds) : Reps G h θ X (v :: vs) (d :: ds) := .mk a b
end

inductive ML (G : Gr) (h : Heap) (X : List Addr) (a : Addr) (ds : List D) : Prop
  | mk {vs : List Value} {n : Nat} : h.get? a = some (listOf vs.toArray n) → Reps G h [] X vs ds → ML G h X a ds
inductive MI (G : Gr) (h : Heap) (X : List Addr) (dx : Addr) (c : Cls) (ds : List D) : Prop
  | mk {n : Nat} {ts : List Tok} {vs : List Value} : h.get? dx = some (dictOf (mkEs G.w.params c.names ts vs) n) → ts.length = vs.length → vs.length ≤ c.names.length → Reps G h [] X vs ds → MI G h X dx c ds
def MRep (G : Gr) (h : Heap) (X : List Addr) (a : Addr) : MO → Prop
  | .list ds => ML G h X a ds
  | .inst c ds => MI G h X a c ds
  | .dead => True
section
variable {G : Gr} {h : Heap} {X : List Addr}
theorem MRep.list {a : Addr} {vs : List Value} {n : Nat} {ds : List D} (e : h.get? a = some (listOf vs.toArray n)) (r : Reps G h [] X vs ds) : MRep G h X a (.list ds) := .mk e r
theorem MRep.inst {dx : Addr} {c : Cls} {n : Nat} {ts : List Tok} {vs : List Value} {ds : List D} (e : h.get? dx = some (dictOf (mkEs G.w.params c.names ts vs) n)) (l : ts.length = vs.length) (z : vs.length ≤ c.names.length)
    (r : Reps G h [] X vs ds) : MRep G h X dx (.inst c ds) := .mk e l z r
theorem MRep.dead {a : Addr} : MRep G h X a .dead := trivial
end

/-! ## what is kept: outside of W all stays; at the frames F slots may turn -/
def Kp (W F : List Addr) (h h' : Heap) : Prop :=
  h.objs.size ≤ h'.objs.size ∧ ∀ b o, h.get? b = some o → b ∉ W → ∃ sl, h'.get? b = some { o with slots := sl } ∧ (b ∉ F → sl = o.slots)

section
variable {W W' F F' : List Addr} {h h' h'' : Heap}

theorem Kp.refl : Kp W F h h := ⟨Nat.le_refl _, fun _ o e _ => ⟨o.slots, e, fun _ => rfl⟩⟩
theorem Kp.of_all (hz : h.objs.size ≤ h'.objs.size) (k : ∀ b o, h.get? b = some o → b ∉ W → h'.get? b = some o) : Kp W F h h' := ⟨hz, fun b o e hb => ⟨o.slots, k b o e hb, fun _ => rfl⟩⟩
/-- the second step may also write at addresses that were not there -/
theorem Kp.trans' (k : Kp W F h h') (k' : Kp W' F' h' h'') (hw : ∀ b ∈ W', b ∈ W ∨ h.objs.size ≤ b) (hf : ∀ b ∈ F', b ∈ F ∨ h.objs.size ≤ b) : Kp W F h h'' := ⟨Nat.le_trans k.1 k'.1, fun b o e hb => by
  obtain ⟨sl, e1, c1⟩ := k.2 b o e hb
  obtain ⟨sl', e2, c2⟩ := k'.2 b _ e1 fun q => (hw b q).elim hb fun l => absurd (Heap.lt_size e) (Nat.not_lt.mpr l)
  exact ⟨sl', e2, fun n => (c2 fun q => (hf b q).elim n fun l => absurd (Heap.lt_size e) (Nat.not_lt.mpr l)).trans (c1 n)⟩⟩
theorem Kp.trans (k : Kp W F h h') (k' : Kp W F h' h'') : Kp W F h h'' := k.trans' k' (fun _ q => .inl q) fun _ q => .inl q
theorem Kp.mono (k : Kp W F h h') (hw : ∀ b ∈ W, b ∈ W' ∨ h.objs.size ≤ b) (hf : ∀ b ∈ F, b ∈ F' ∨ h.objs.size ≤ b) : Kp W' F' h h' := Kp.refl.trans' k hw hf
theorem Kp.get (k : Kp W F h h') {b : Addr} {o : Obj} (e : h.get? b = some o) (hb : b ∉ W) (hc : b ∉ F) : h'.get? b = some o := by
  obtain ⟨sl, e1, c1⟩ := k.2 b o e hb
  rw [c1 hc] at e1; exact e1
theorem Kp.push (o : Obj) : Kp W F h (h.push o) := .of_all (by rw [Heap.size_push]; omega) fun b o' e _ => Heap.get?_push_of_some _ e
theorem Kp.update {a : Addr} {f : Obj → Obj} (ha : a ∈ W) : Kp W F h (h.update a f) := .of_all (by rw [Heap.size_after_update]; exact Nat.le_refl _) fun b o' e hb => by
  rw [Heap.get?_update_other _ _ (fun q => hb (by rw [← q]; exact ha))]; exact e
theorem Kp.sameBut {a : Addr} (hs : Heap.SameBut a h h') (ha : a ∈ W) : Kp W F h h' := .of_all (by rw [hs.1]; exact Nat.le_refl _) fun b o e hb => by
  rw [hs.2 b fun q => hb (q ▸ ha)]; exact e
theorem Kp.stays (k : ∀ b o, h.get? b = some o → h'.get? b = some o) (hz : h.objs.size ≤ h'.objs.size) : Kp W F h h' := .of_all hz fun b o e _ => k b o e
theorem Kp.ns (k : Kp W F h h') {a : Addr} {m} (hn : h.Ns a m) (ha : a ∉ W) : h'.Ns a m := by
  obtain ⟨o, es, ep, ho, hd, r⟩ := hn
  obtain ⟨sl, e, _⟩ := k.2 a o ho ha
  exact ⟨_, es, ep, e, hd, r⟩
theorem Kp.cell (k : Kp W F h h') {a : Addr} {v} (hn : h.IsCell a v) (ha : a ∉ W) : h'.IsCell a v := by
  obtain ⟨o, ho, hd⟩ := hn
  obtain ⟨sl, e, _⟩ := k.2 a o ho ha
  exact ⟨_, e, hd⟩
theorem fresh_of {b : Addr} (hb : h.objs.size ≤ b) : h.get? b = none := Heap.get?_none_of_le hb
theorem not_le_of_get {b : Addr} {o : Obj} (e : h.get? b = some o) : ¬ h.objs.size ≤ b := Nat.not_le.mpr (Heap.lt_size e)
end

mutual
def clD : D → Bool
  | .tup l => clDs l
  | .list l => clDs l
  | .inst _ l => clDs l
  | .hl _ => false
  | .hi _ _ => false
  | _ => true
def clDs : List D → Bool
  | [] => true
  | d :: r => clD d && clDs r
end
/-- what was read stays read, where nothing of it is touched -/
theorem reps_tr {G : Gr} {θ X θ' X' : List Addr} {h h' : Heap} (H : ∀ a o, h.get? a = some o → a ∉ X → h'.get? a = some o ∧ a ∉ X') {c : Bool} (T : c = false → ∀ (i : Nat) (a : Addr), θ[i]? = some a → θ'[i]? = some a) :
    ∀ d, (∀ v, (c = true → clD d = true) → Rep G h θ X v d → Rep G h' θ' X' v d) :=
  have hT : ∀ {p : Prop} {b : Bool}, (c = true → b = true) → b = false → (∀ (i : Nat) (a : Addr), θ[i]? = some a → θ'[i]? = some a) := fun {p b} k e => T (by cases c; rfl; exact absurd (k rfl) (by rw [e]; exact Bool.false_ne_true))
  D.rec (motive_1 := fun d => ∀ v, (c = true → clD d = true) → Rep G h θ X v d → Rep G h' θ' X' v d) (motive_2 := fun ds => ∀ vs, (c = true → clDs ds = true) → Reps G h θ X vs ds → Reps G h' θ' X' vs ds)
    (fun _ _ R => R) (fun _ _ _ R => R) (fun _ _ _ R => R) (fun _ _ _ R => R) (fun _ _ _ R => R)
    (fun _ ih _ k R => by obtain ⟨e, n, r⟩ := R; exact .mk (H _ _ e n).1 (H _ _ e n).2 (ih _ k r))
    (fun _ ih _ k R => by obtain ⟨e, n, r⟩ := R; exact .mk (H _ _ e n).1 (H _ _ e n).2 (ih _ k r))
    (fun _ _ ih _ k R => by obtain ⟨e, e', n, n', l, r, z⟩ := R; exact .mk (H _ _ e n).1 (H _ _ e' n').1 (H _ _ e n).2 (H _ _ e' n').2 l (ih _ k r) z)
    (fun _ _ k R => by obtain ⟨e⟩ := R; exact .mk (hT (p := True) k rfl _ _ e))
    (fun _ _ _ k R => by obtain ⟨e, e', n⟩ := R; exact .mk (hT (p := True) k rfl _ _ e) (H _ _ e' n).1 (H _ _ e' n).2)
    (fun _ _ _ R => R) (fun _ _ _ R => R)
    (fun _ _ R => R) (fun _ _ i j _ k R => by
      obtain ⟨a, b⟩ := R
      exact .mk (i _ (fun q => (Bool.and_eq_true _ _ ▸ k q : _ ∧ _).1) a) (j _ (fun q => (Bool.and_eq_true _ _ ▸ k q : _ ∧ _).2) b))
theorem Reps.tr {G : Gr} {θ X θ' X' : List Addr} {h h' : Heap} {c : Bool} (H : ∀ d, (∀ v, (c = true → clD d = true) → Rep G h θ X v d → Rep G h' θ' X' v d)) :
    ∀ {ds : List D} {vs : List Value}, (c = true → clDs ds = true) → Reps G h θ X vs ds → Reps G h' θ' X' vs ds
  | [], _, _, R => R
  | d :: ds, _, k, .mk a b => .mk (H d _ (fun q => (Bool.and_eq_true _ _ ▸ k q : _ ∧ _).1) a) (Reps.tr H (fun q => (Bool.and_eq_true _ _ ▸ k q : _ ∧ _).2) b)
section
variable {G : Gr} {W F θ X θ' X' : List Addr} {h h' : Heap} {v : Value} {d : D} {vs : List Value} {ds : List D}
theorem nil_get {p : Prop} {i : Nat} {a : Addr} (e : ([] : List Addr)[i]? = some a) : p := nomatch (List.getElem?_nil (i := i)).symm.trans e
theorem Kp.gets (k : Kp W F h h') (hW : ∀ b ∈ W, b ∈ X) (hF : ∀ b ∈ F, b ∈ X) (hX : ∀ b ∈ X', b ∈ X ∨ h.objs.size ≤ b) (a : Addr) (o : Obj) (e : h.get? a = some o) (n : a ∉ X) : h'.get? a = some o ∧ a ∉ X' :=
  ⟨k.get e (fun q => n (hW _ q)) fun q => n (hF _ q), fun q => (hX _ q).elim n (not_le_of_get e)⟩
theorem Rep.kp (k : Kp W F h h') (hW : ∀ b ∈ W, b ∈ X) (hF : ∀ b ∈ F, b ∈ X) (hθ : ∀ (i : Nat) (a : Addr), θ[i]? = some a → θ'[i]? = some a) (hX : ∀ b ∈ X', b ∈ X ∨ h.objs.size ≤ b) (R : Rep G h θ X v d) : Rep G h' θ' X' v d :=
  reps_tr (c := false) (k.gets hW hF hX) (fun _ => hθ) d v (fun q => nomatch q) R
theorem Reps.kp (k : Kp W F h h') (hW : ∀ b ∈ W, b ∈ X) (hF : ∀ b ∈ F, b ∈ X) (hθ : ∀ (i : Nat) (a : Addr), θ[i]? = some a → θ'[i]? = some a) (hX : ∀ b ∈ X', b ∈ X ∨ h.objs.size ≤ b) (R : Reps G h θ X vs ds) : Reps G h' θ' X' vs ds :=
  Reps.tr (c := false) (reps_tr (k.gets hW hF hX) (fun _ => hθ)) (fun q => nomatch q) R
theorem Rep.cl (R : Rep G h [] X v d) : Rep G h θ X v d := reps_tr (c := false) (fun _ _ e n => ⟨e, n⟩) (fun _ _ _ e => nil_get e) d v (fun q => nomatch q) R
theorem Reps.cl (R : Reps G h [] X vs ds) : Reps G h θ X vs ds := Reps.tr (c := false) (reps_tr (fun _ _ e n => ⟨e, n⟩) (fun _ _ _ e => nil_get e)) (fun q => nomatch q) R
theorem Rep.uncl (R : Rep G h θ X v d) (k : clD d = true) : Rep G h [] X v d := reps_tr (c := true) (fun _ _ e n => ⟨e, n⟩) (fun q => nomatch q) d v (fun _ => k) R
theorem Reps.uncl (R : Reps G h θ X vs ds) (k : clDs ds = true) : Reps G h [] X vs ds := Reps.tr (c := true) (reps_tr (fun _ _ e n => ⟨e, n⟩) (fun q => nomatch q)) (fun _ => k) R
theorem Rep.wk (R : Rep G h θ X v d) (hX : ∀ b ∈ X', b ∈ X) : Rep G h θ X' v d := reps_tr (c := false) (fun _ _ e n => ⟨e, fun q => n (hX _ q)⟩) (fun _ _ _ e => e) d v (fun q => nomatch q) R
theorem Reps.wk (R : Reps G h θ X vs ds) (hX : ∀ b ∈ X', b ∈ X) : Reps G h θ X' vs ds := Reps.tr (c := false) (reps_tr (fun _ _ e n => ⟨e, fun q => n (hX _ q)⟩) (fun _ _ _ e => e)) (fun q => nomatch q) R
theorem Reps.length : ∀ {ds : List D} {vs : List Value}, Reps G h θ X vs ds → vs.length = ds.length
  | [], _, e => congrArg List.length e
  | _ :: _, _, .mk _ r => congrArg (· + 1) (Reps.length r)
theorem Reps.get : ∀ {ds : List D} {vs : List Value} {i : Nat} {d : D}, Reps G h θ X vs ds → ds[i]? = some d → ∃ v, vs[i]? = some v ∧ Rep G h θ X v d
  | _ :: _, _, 0, _, .mk h _, e => by cases e; exact ⟨_, rfl, h⟩
  | _ :: _, _, i + 1, _, .mk _ r, e => Reps.get (i := i) r e
theorem Reps.append : ∀ {ds : List D} {vs ws : List Value} {es : List D}, Reps G h θ X vs ds → Reps G h θ X ws es → Reps G h θ X (vs ++ ws) (ds ++ es)
  | [], _, _, _, e, r => by cases e; exact r
  | _ :: _, _, _, _, .mk h r, r' => .mk h (Reps.append r r')
end

/-! ## the state -/
def frs (A : Around) : List Env := A.frames.getD []
def FL (A : Around) : List Addr := (frs A).filterMap (·.frame)

inductive FrameOk (G : Gr) (h : Heap) (e : Env) : Prop
  | mk (k : e.scope.kind ≠ .module) (L : Addr) (o : Obj) (es : Array DictEntry) (n : Nat) : e.frame = some L → G.h₀.get? L = none → h.get? L = some o → o.data = .dict es n → FrameOk G h e

/-- a code table: what it holds are codes of the one lambda -/
inductive CodAt (G : Gr) (X : List Addr) (h : Heap) (q : Addr) : Value → Prop
  | mk {c : Addr} : h.CodeRec (.ref c) (G.tq q) → c ∉ X → CodAt G X h q (.ref c)
inductive TabOk (G : Gr) (X : List Addr) (h : Heap) (q : Addr × Addr) : Prop
  | mk {ps} : h.get? q.2 = some (tabObj ps) → TriplesOk ps.toList → (∀ pos cv, codeAmong pos ps.toList = some cv → CodAt G X h q.2 cv) → TabOk G X h q
theorem TabOk.mono {G : Gr} {X X' : List Addr} {h h' : Heap} {q : Addr × Addr} (t : TabOk G X h q) (e : ∀ o, h.get? q.2 = some o → h'.get? q.2 = some o) (k : ∀ c s, h.CodeRec (.ref c) s → c ∉ X → h'.CodeRec (.ref c) s ∧ c ∉ X') : TabOk G X' h' q := by
  obtain ⟨e1, t, r⟩ := t
  exact .mk (e _ e1) t fun pos cv e' => by
    obtain ⟨a, b⟩ := r pos cv e'
    exact .mk (k _ _ a b).1 (k _ _ a b).2

structure Inv (G : Gr) (A : Around) (X : List Addr) (h : Heap) : Prop where
  base : ∀ b o, G.h₀.get? b = some o → h.get? b = some o
  tabs : ∀ q ∈ G.tabs, TabOk G X h q
  fs : A.frames = some (frs A)
  frames : ∀ e ∈ frs A, FrameOk G h e

def VarAt (h : Heap) (env : Env) (x : Str) (v : Value) : Prop :=
  (env.kindOf x = some .local ∧ ∃ m, h.Ns env.locals m ∧ m x = some v) ∨
  ((env.kindOf x = some .cell ∨ env.kindOf x = some .free) ∧ ∃ c, env.cells.lookup x = some c ∧ h.IsCell c (some v))

def envA (env : Env) : List Addr := env.locals :: env.cells.map (·.2)

def Muts (G : Gr) (h : Heap) (θ X : List Addr) (μ : List MO) : Prop := θ.length = μ.length ∧ ∀ (k : Nat) a mo, θ[k]? = some a → μ[k]? = some mo → MRep G h X a mo

/-- what may be written: own, apart, and there -/
structure Own (G : Gr) (A : Around) (h : Heap) (θ X : List Addr) : Prop where
  inX : ∀ a, a ∈ θ ∨ a ∈ G.tA ∨ a ∈ FL A → a ∈ X
  lt : ∀ a ∈ X, a < h.objs.size
  nd : (θ ++ G.tA).Nodup
  fl : ∀ a ∈ FL A, a ∉ θ ∧ a ∉ G.tA
  new : ∀ a ∈ X, G.h₀.get? a = none

/-- what a text's block has of its own: its scope, its code, its road -/
structure Fs where
  sc : Scope
  code : Value
  qual : Str
def Fs.ok (f : Fs) (env : Env) : Prop := env.scope = f.sc ∧ env.code = f.code ∧ env.qual = f.qual ∧ env.builtins = builtinsNs ∧ ∀ x, f.sc.names.lookup x = some .cell → ∃ c, env.cells.lookup x = some c

structure EnvOk (G : Gr) (A : Around) (env : Env) (h : Heap) (θ X : List Addr) : Prop where
  kind : env.scope.kind = .function
  glob : env.globals = mainGlobals
  ns : ∃ m, h.Ns env.locals m
  cells : ∀ p ∈ env.cells, ∃ v, h.IsCell p.2 v
  inX : ∀ a ∈ envA env, a ∈ X
  off : ∀ a ∈ envA env, a ∉ θ ∧ a ∉ G.tA
  nd : (envA env).Nodup
  nfl : ∀ p ∈ env.cells, p.2 ∉ FL A

structure Stt (G : Gr) (A : Around) (env : Env) (ns : List Str) (θ X : List Addr) (h : Heap) (ρ : List (Option D)) (μ : List MO) : Prop where
  inv : Inv G A X h
  own : Own G A h θ X
  muts : Muts G h θ X μ
  eo : EnvOk G A env h θ X
  var : ∀ (i : Nat) d, ρ[i]? = some (some d) → ∃ x v, ns[i]? = some x ∧ VarAt h env x v ∧ Rep G h θ X v d

def AOk (A : Around) (b : Nat) : Prop := A.handled = none ∧ A.depth + 8 * b + 20 ≤ 1000 ∧ A.units + 100 * b + 300 ≤ 9900

/-- from (θ, X, h) to (θ', X', h'): handles are added, what is written lies among the handles and the tables -/
structure Ext (G : Gr) (A : Around) (θ X : List Addr) (h : Heap) (θ' X' : List Addr) (h' : Heap) : Prop where
  kp : Kp (θ ++ G.tA) (FL A) h h'
  new : ∃ nw, θ' = θ ++ nw ∧ ∀ a ∈ nw, h.objs.size ≤ a
  sup : ∀ b ∈ X, b ∈ X'
  sub : ∀ b ∈ X', b ∈ X ∨ h.objs.size ≤ b

def Rest (s s' : Shared) : Prop := s' = { s with heap := s'.heap, toks := s'.toks }

/-- an address that none but the flying exception holds, made since hs -/
def Loose (G : Gr) (hs : Heap) (θ X : List Addr) (a : Addr) : Prop := a ∈ X ∧ hs.objs.size ≤ a ∧ a ∉ θ ∧ a ∉ G.tA
/-- its traceback -/
inductive TrbAt (G : Gr) (hs : Heap) (θ X : List Addr) (h : Heap) (e : Addr) (w : Option Value) : Prop
  | mk (T : Addr) (oT : Obj) (ts : Array Value) : w = some (.ref T) → Loose G hs θ X T → T ≠ e → h.get? T = some oT → oT.data = .fields ts → 3 < ts.size → TrbAt G hs θ X h e w
/-- an exception object of class c, made since hs -/
inductive ExcAt (G : Gr) (hs : Heap) (θ X : List Addr) (h : Heap) (e : Addr) (c : Exn) : Prop
  | mk (l : Loose G hs θ X e) (oe : Obj) (vs : Array Value) : h.get? e = some oe → oe.cls = .ref (G.eA c) → oe.data = .fields vs → (vs[1]? = some .none ∨ TrbAt G hs θ X h e vs[1]?) → ExcAt G hs θ X h e c

abbrev PE := List (Option D) → List MO → (D → List MO → Prop) → (Exn → List MO → Prop) → Prop
abbrev PS := List (Option D) → List MO → (List (Option D) → List MO → Prop) → (D → List MO → Prop) → (Exn → List MO → Prop) → Prop

inductive Post (G : Gr) (A : Around) (env : Env) (ns : List Str) (ρ : List (Option D)) (θ X : List Addr) (s : Shared) (Q : D → List MO → Prop) (v : Value) (s' : Shared) : Prop
  | mk (θ' X' d μ') : Ext G A θ X s.heap θ' X' s'.heap → Stt G A env ns θ' X' s'.heap ρ μ' → Rep G s'.heap θ' X' v d → Q d μ' → Rest s s' → Post G A env ns ρ θ X s Q v s'
inductive PostX (G : Gr) (A : Around) (env : Env) (ns : List Str) (ρ : List (Option D)) (θ X : List Addr) (s : Shared) (Ex : Exn → List MO → Prop) (v : Value) (s' : Shared) : Prop
  | mk (θ' X' e c μ') : v = .ref e → Ext G A θ X s.heap θ' X' s'.heap → Stt G A env ns θ' X' s'.heap ρ μ' → ExcAt G s.heap θ' X' s'.heap e c → Ex c μ' → Rest s s' → PostX G A env ns ρ θ X s Ex v s'

/-- the expression x, in a block fs, does what P tells -/
def EV (G : Gr) (b : Nat) (fs : Fs) (ns : List Str) (x : Expr) (P : PE) : Prop :=
  ∀ (A : Around) (env : Env) (θ X : List Addr) (s : Shared) ρ μ Q Ex, AOk A b → fs.ok env → Stt G A env ns θ X s.heap ρ μ → P ρ μ Q Ex →
    wpAny G.M A (eval x env) (Post G A env ns ρ θ X s Q) (PostX G A env ns ρ θ X s Ex) s

/-! ## tests -/
abbrev PT := List (Option D) → List MO → (Bool → List MO → Prop) → (Exn → List MO → Prop) → Prop
inductive PostT (G : Gr) (A : Around) (env : Env) (ns : List Str) (ρ : List (Option D)) (θ X : List Addr) (s : Shared) (Q : Bool → List MO → Prop) (c : Bool) (s' : Shared) : Prop
  | mk (θ' X' μ') : Ext G A θ X s.heap θ' X' s'.heap → Stt G A env ns θ' X' s'.heap ρ μ' → Q c μ' → Rest s s' → PostT G A env ns ρ θ X s Q c s'
def ET (G : Gr) (b : Nat) (fs : Fs) (ns : List Str) (x : Expr) (P : PT) : Prop :=
  ∀ (A : Around) (env : Env) (θ X : List Addr) (s : Shared) ρ μ Q Ex, AOk A b → fs.ok env → Stt G A env ns θ X s.heap ρ μ → P ρ μ Q Ex →
    wpAny G.M A (isTrue x env (eval x env)) (PostT G A env ns ρ θ X s Q) (PostX G A env ns ρ θ X s Ex) s

/-! ## what the world gives -/
structure Gr.Ok (G : Gr) : Prop where
  X : G.K.In G.h₀
  T : ∃ p loose, TopRead p loose G.mg G.mb G.h₀
  code : ∀ q ∈ G.tabs, CodeHd G.h₀ q.1 q.2
  bmain : ∃ bm ob, G.mg "__builtins__" = some (.ref bm) ∧ bm ≠ builtinsNs ∧ G.h₀.get? bm = some ob ∧ ob.cls = .type "module" ∧ ob.dict = some builtinsNs ∧ ob.data = .plain

end Mine
namespace Mine
open PySem PySem.W PySem.Calls PyProof.Rows

section
variable {G : Gr} {A : Around} {env : Env} {ns : List Str} {θ X θ' X' θ'' X'' : List Addr} {h h' h'' : Heap} {ρ : List (Option D)} {μ : List MO} {s s' s'' : Shared} {W F : List Addr}

theorem Rest.refl : Rest s s := rfl
theorem Rest.trans (a : Rest s s') (b : Rest s' s'') : Rest s s'' := by
  unfold Rest at a b ⊢
  rw [b, a]
theorem Rest.mk {h : Heap} {t : Nat} : Rest s { s with heap := h, toks := t } := rfl
theorem Rest.mkT {t : Nat} : Rest s { s with toks := t } := rfl
theorem Rest.mkH {h : Heap} : Rest s { s with heap := h } := rfl
theorem Rest.of (a : Rest s s') : ∃ h t, s' = { s with heap := h, toks := t } := ⟨_, _, a⟩

theorem codeRec_kp (k : Kp W F h h') {c : Addr} {q : Str} (hc : c ∉ W) (x : h.CodeRec (.ref c) q) : h'.CodeRec (.ref c) q := by
  obtain ⟨c1, o, vs, t, e1, e2, e3, e4⟩ := x
  cases e1
  obtain ⟨sl, e, _⟩ := k.2 c o e2 hc
  exact ⟨c, _, vs, t, rfl, e, e3, e4⟩

theorem codeRec_lt {c : Addr} {q : Str} (x : h.CodeRec (.ref c) q) : c < h.objs.size := by
  obtain ⟨c1, o, vs, t, e1, e2, _⟩ := x
  cases e1; exact Heap.lt_size e2

/-- the world's facts over a step that writes at W and, at the frames, slots -/
theorem Inv.kp (I : Inv G A X h) (k : Kp W (FL A) h h') (hn : ∀ a ∈ W, a ∈ X) (hX : ∀ a ∈ X, G.h₀.get? a = none) (hf : ∀ a ∈ FL A, a ∉ W) (hft : ∀ a ∈ FL A, a ∉ G.tA) (ht : ∀ a ∈ G.tA, a ∉ W) : Inv G A X h' where
  base := fun b o e => by
    have e1 := I.base b o e
    refine k.get e1 (fun q => by rw [hX b (hn b q)] at e; cases e) fun q => ?_
    obtain ⟨en, hen, hfr⟩ := List.mem_filterMap.mp q
    obtain ⟨_, L, _, _, _, e2, e3, _⟩ := I.frames en hen
    rw [hfr] at e2; cases e2
    rw [e3] at e; cases e
  tabs := fun q hq => by
    have hm : q.2 ∈ G.tA := List.mem_map_of_mem hq
    exact (I.tabs q hq).mono (fun o e => k.get e (ht _ hm) fun z => hft _ z hm) fun c s h1 h2 => ⟨codeRec_kp k (fun q => h2 (hn _ q)) h1, h2⟩
  fs := I.fs
  frames := fun e he => by
    obtain ⟨h1, L, o, es, n, h2, h3, h4, h5⟩ := I.frames e he
    have hL : L ∈ FL A := List.mem_filterMap.mpr ⟨e, he, h2⟩
    obtain ⟨sl, h6, _⟩ := k.2 L o h4 (hf L hL)
    exact ⟨h1, L, _, es, n, h2, h3, h6, h5⟩

theorem Own.kp (O : Own G A h θ X) (hz : h.objs.size ≤ h'.objs.size) : Own G A h' θ X := ⟨O.inX, fun a ha => Nat.lt_of_lt_of_le (O.lt a ha) hz, O.nd, O.fl, O.new⟩

theorem EnvOk.kp (E : EnvOk G A env h θ X) (k : Kp W (FL A) h h') (hw : ∀ a ∈ envA env, a ∉ W) : EnvOk G A env h' θ X := by
  refine ⟨E.kind, E.glob, ?_, fun p hp => ?_, E.inX, E.off, E.nd, E.nfl⟩
  · obtain ⟨m, hm⟩ := E.ns
    exact ⟨m, k.ns hm (hw _ (.head _))⟩
  · obtain ⟨v, hv⟩ := E.cells p hp
    exact ⟨v, k.cell hv (hw _ (.tail _ (List.mem_map_of_mem hp)))⟩

theorem lookup_mem {c : Addr} {x : Str} (h : env.cells.lookup x = some c) : (x, c) ∈ env.cells := mem_of_lookup h

theorem VarAt.kp {x : Str} {v : Value} (V : VarAt h env x v) (k : Kp W F h h') (hw : ∀ a ∈ envA env, a ∉ W) : VarAt h' env x v := by
  rcases V with ⟨h1, m, h2, h3⟩ | ⟨h1, c, h2, h3⟩
  · exact .inl ⟨h1, m, k.ns h2 (hw _ (.head _)), h3⟩
  · exact .inr ⟨h1, c, h2, k.cell h3 (hw _ (.tail _ (List.mem_map.mpr ⟨(x, c), lookup_mem h2, rfl⟩)))⟩

theorem MRep.kp {a : Addr} {mo : MO} (k : Kp W F h h') (hW : ∀ b ∈ W, b ∈ X) (hF : ∀ b ∈ F, b ∈ X) (hX : ∀ b ∈ X', b ∈ X ∨ h.objs.size ≤ b)
    (ha : a ∉ W) (haF : a ∉ F) (M : MRep G h X a mo) : MRep G h' X' a mo := by
  cases mo with
  | list => obtain ⟨e, r⟩ := M; exact .mk (k.get e ha haF) (r.kp k hW hF (fun _ _ e => e) hX)
  | inst => obtain ⟨e, l, z, r⟩ := M; exact .mk (k.get e ha haF) l z (r.kp k hW hF (fun _ _ e => e) hX)
  | dead => exact trivial

theorem Muts.kp (M : Muts G h θ X μ) (k : Kp W F h h') (hW : ∀ b ∈ W, b ∈ X) (hF : ∀ b ∈ F, b ∈ X) (hX : ∀ b ∈ X', b ∈ X ∨ h.objs.size ≤ b)
    (ha : ∀ a ∈ θ, a ∉ W ∧ a ∉ F) : Muts G h' θ X' μ := ⟨M.1, fun i a mo e1 e2 => by
  have hm : a ∈ θ := List.mem_of_getElem? e1
  exact (M.2 i a mo e1 e2).kp k hW hF hX (ha a hm).1 (ha a hm).2⟩

theorem Own.FLX (O : Own G A h θ X) : ∀ b ∈ FL A, b ∈ X := fun b hb => O.inX b (.inr (.inr hb))

/-- nothing is written: all stays -/
theorem Stt.stays (S : Stt G A env ns θ X h ρ μ) (k : Kp [] [] h h') : Stt G A env ns θ X h' ρ μ := by
  have k1 : Kp [] (FL A) h h' := k.mono (fun _ q => nomatch q) fun _ q => nomatch q
  refine ⟨S.inv.kp k1 (fun _ q => nomatch q) S.own.new (fun _ _ q => nomatch q) (fun a ha => (S.own.fl a ha).2) (fun _ _ q => nomatch q), S.own.kp k.1,
    S.muts.kp k1 (fun _ q => nomatch q) S.own.FLX (fun _ q => .inl q) (fun a ha => ⟨(fun q => nomatch q), fun q => (S.own.fl a q).1 ha⟩), S.eo.kp k1 (fun _ _ q => nomatch q), fun i d e => ?_⟩
  obtain ⟨x, v, e1, V, R⟩ := S.var i d e
  exact ⟨x, v, e1, V.kp k1 (fun _ _ q => nomatch q), R.kp k1 (fun _ q => nomatch q) S.own.FLX (fun _ _ e => e) (fun _ q => .inl q)⟩

theorem Ext.refl : Ext G A θ X h θ X h := ⟨.refl, ⟨[], by simp, fun _ q => nomatch q⟩, fun _ q => q, fun _ q => .inl q⟩
theorem Ext.of_kp (k : Kp (θ ++ G.tA) (FL A) h h') : Ext G A θ X h θ X h' := ⟨k, ⟨[], by simp, fun _ q => nomatch q⟩, fun _ q => q, fun _ q => .inl q⟩
theorem Ext.stays (k : Kp [] [] h h') : Ext G A θ X h θ X h' := .of_kp (k.mono (fun _ q => nomatch q) (fun _ q => nomatch q))
theorem Ext.trans (a : Ext G A θ X h θ' X' h') (b : Ext G A θ' X' h' θ'' X'' h'') : Ext G A θ X h θ'' X'' h'' := by
  obtain ⟨k, ⟨nw, rfl, l⟩, e, f⟩ := a
  obtain ⟨k', ⟨nw', rfl, l'⟩, e', f'⟩ := b
  refine ⟨k.trans' k' (fun b q => ?_) fun _ q => .inl q, ⟨nw ++ nw', by simp, fun a q => ?_⟩, fun b q => e' b (e b q), fun b q => ?_⟩
  · simp only [List.mem_append] at q ⊢
    rcases q with (q | q) | q
    · exact .inl (.inl q)
    · exact .inr (l b q)
    · exact .inl (.inr q)
  · rcases List.mem_append.mp q with q | q
    · exact l a q
    · exact Nat.le_trans k.1 (l' a q)
  · rcases f' b q with q | q
    · exact f b q
    · exact .inr (Nat.le_trans k.1 q)
theorem Ext.th (a : Ext G A θ X h θ' X' h') : ∀ (i : Nat) (b : Addr), θ[i]? = some b → θ'[i]? = some b := by
  obtain ⟨_, ⟨nw, rfl, _⟩, _, _⟩ := a
  intro i b e
  rw [List.getElem?_append_left (List.getElem?_eq_some_iff.mp e).1]; exact e

/-- what was read stays read -/
theorem Rep.ext {v : Value} {d : D} (R : Rep G h θ X v d) (O : Own G A h θ X) (e : Ext G A θ X h θ' X' h') : Rep G h' θ' X' v d :=
  R.kp e.kp (fun b q => O.inX b ((List.mem_append.mp q).elim .inl fun z => .inr (.inl z))) O.FLX e.th e.sub
theorem Reps.ext {v : List Value} {d : List D} (R : Reps G h θ X v d) (O : Own G A h θ X) (e : Ext G A θ X h θ' X' h') : Reps G h' θ' X' v d :=
  R.kp e.kp (fun b q => O.inX b ((List.mem_append.mp q).elim .inl fun z => .inr (.inl z))) O.FLX e.th e.sub
theorem Rep.stays {v : Value} {d : D} (R : Rep G h θ X v d) (k : Kp [] [] h h') : Rep G h' θ X v d := R.kp k (fun _ q => nomatch q) (fun _ q => nomatch q) (fun _ _ e => e) fun _ q => .inl q
theorem Reps.stays {v : List Value} {d : List D} (R : Reps G h θ X v d) (k : Kp [] [] h h') : Reps G h' θ X v d := R.kp k (fun _ q => nomatch q) (fun _ q => nomatch q) (fun _ _ e => e) fun _ q => .inl q
theorem Muts.stays (M : Muts G h θ X μ) (k : Kp [] [] h h') : Muts G h' θ X μ := M.kp k (fun _ q => nomatch q) (fun _ q => nomatch q) (fun _ q => .inl q) fun _ _ => ⟨(fun q => nomatch q), fun q => nomatch q⟩

theorem Kp.nil_trans (a : Kp [] [] h h') (b : Kp [] [] h' h'') : Kp [] [] h h'' := a.trans b

/-! ## posts -/
theorem Post.rebase {Q : D → List MO → Prop} {v : Value} {s₁ : Shared} (e : Ext G A θ X s.heap θ' X' s₁.heap) (r : Rest s s₁) (p : Post G A env ns ρ θ' X' s₁ Q v s') : Post G A env ns ρ θ X s Q v s' := by
  obtain ⟨θ2, X2, d, μ', e2, S, R, q, r2⟩ := p
  exact ⟨θ2, X2, d, μ', e.trans e2, S, R, q, r.trans r2⟩
theorem Loose.le {hs hs' : Heap} {a : Addr} (x : Loose G hs' θ X a) (l : hs.objs.size ≤ hs'.objs.size) : Loose G hs θ X a := ⟨x.1, Nat.le_trans l x.2.1, x.2.2⟩
theorem ExcAt.map {hs hs' : Heap} {e : Addr} {c : Exn} (x : ExcAt G hs' θ' X' h e c) (f : ∀ a, Loose G hs' θ' X' a → Loose G hs θ X a) : ExcAt G hs θ X h e c := by
  obtain ⟨l, oe, vs, h1, h2, h3, h4⟩ := x
  exact .mk (f _ l) oe vs h1 h2 h3 (h4.imp id fun t => by obtain ⟨T, oT, ts, a, b, r1, r2, r3, r4⟩ := t; exact .mk T oT ts a (f _ b) r1 r2 r3 r4)
theorem ExcAt.le {hs hs' : Heap} {e : Addr} {c : Exn} (x : ExcAt G hs' θ X h e c) (l : hs.objs.size ≤ hs'.objs.size) : ExcAt G hs θ X h e c := x.map fun _ y => y.le l
theorem PostX.rebase {Ex : Exn → List MO → Prop} {v : Value} {s₁ : Shared} (e : Ext G A θ X s.heap θ' X' s₁.heap) (r : Rest s s₁) (p : PostX G A env ns ρ θ' X' s₁ Ex v s') : PostX G A env ns ρ θ X s Ex v s' := by
  obtain ⟨θ2, X2, a, c, μ', ev, e2, S, R, q, r2⟩ := p
  exact ⟨θ2, X2, a, c, μ', ev, e.trans e2, S, R.le e.kp.1, q, r.trans r2⟩
theorem Post.mono {Q Q' : D → List MO → Prop} {v : Value} (p : Post G A env ns ρ θ X s Q v s') (k : ∀ d μ, Q d μ → Q' d μ) : Post G A env ns ρ θ X s Q' v s' := by
  obtain ⟨θ2, X2, d, μ', e2, S, R, q, r2⟩ := p
  exact ⟨θ2, X2, d, μ', e2, S, R, k _ _ q, r2⟩

/-- an operation that writes nothing and raises nothing -/
inductive VPost (G : Gr) (θ X : List Addr) (s : Shared) (Q : D → Prop) (v : Value) (s' : Shared) : Prop
  | mk (d) : Rep G s'.heap θ X v d → Kp [] [] s.heap s'.heap → Q d → Rest s s' → VPost G θ X s Q v s'
def VOk (G : Gr) (A : Around) (θ X : List Addr) (s : Shared) (m : Sem Value) (Q : D → Prop) : Prop :=
  wpAny G.M A m (VPost G θ X s Q) (fun _ _ => False) s

theorem VOk.post {m : Sem Value} {Q : D → List MO → Prop} {E : Value → Shared → Prop} {s₁ : Shared} (v : VOk G A θ' X' s₁ m (fun d => Q d μ)) (S : Stt G A env ns θ' X' s₁.heap ρ μ) (e : Ext G A θ X s.heap θ' X' s₁.heap) (r : Rest s s₁) :
    wpAny G.M A m (Post G A env ns ρ θ X s Q) E s₁ :=
  wpAny_mono v (fun v s' ⟨d, R, k, q, r'⟩ => ⟨θ', X', d, μ, e.trans (.stays k), S.stays k, R, q, r.trans r'⟩) fun _ _ f => f.elim

theorem VOk.imm {m : Sem Value} {Q : D → Prop} {v : Value} {d : D} {t : Nat} (hr : ∀ h θ X, Rep G h θ X v d) (hq : Q d)
    (h : ∀ {Q' : Value → Shared → Prop} {E : Value → Shared → Prop}, Q' v { s with toks := t } → wpAny G.M A m Q' E s) : VOk G A θ X s m Q :=
  h ⟨d, hr _ _ _, .refl, hq, rfl⟩

/-- the road of an EV -/
theorem EV.go {b : Nat} {fs : Fs} {x : Expr} {P : PE} {Q : D → List MO → Prop} {Ex : Exn → List MO → Prop} {Q' : Value → Shared → Prop} {E' : Value → Shared → Prop} (H : EV G b fs ns x P) (hA : AOk A b) (he : fs.ok env)
    (S : Stt G A env ns θ X s.heap ρ μ) (p : P ρ μ Q Ex)
    (k : ∀ v s' θ' X' d μ', Ext G A θ X s.heap θ' X' s'.heap → Stt G A env ns θ' X' s'.heap ρ μ' → Rep G s'.heap θ' X' v d → Q d μ' → Rest s s' → Q' v s')
    (kx : ∀ v s', PostX G A env ns ρ θ X s Ex v s' → E' v s') : wpAny G.M A (eval x env) Q' E' s :=
  wpAny_mono (H A env θ X s ρ μ Q Ex hA he S p) (fun v s' ⟨θ', X', d, μ', e, S', R, q, r⟩ => k v s' θ' X' d μ' e S' R q r) kx
theorem PostT.rebase {Q : Bool → List MO → Prop} {v : Bool} {s₁ : Shared} (e : Ext G A θ X s.heap θ' X' s₁.heap) (r : Rest s s₁) (p : PostT G A env ns ρ θ' X' s₁ Q v s') : PostT G A env ns ρ θ X s Q v s' := by
  obtain ⟨θ2, X2, μ', e2, S, q, r2⟩ := p
  exact ⟨θ2, X2, μ', e.trans e2, S, q, r.trans r2⟩
theorem ET.go {b : Nat} {fs : Fs} {x : Expr} {P : PT} {Q : Bool → List MO → Prop} {Ex : Exn → List MO → Prop} {Q' : Bool → Shared → Prop} {E' : Value → Shared → Prop} (H : ET G b fs ns x P) (hA : AOk A b) (he : fs.ok env)
    (S : Stt G A env ns θ X s.heap ρ μ) (p : P ρ μ Q Ex)
    (k : ∀ c s' θ' X' μ', Ext G A θ X s.heap θ' X' s'.heap → Stt G A env ns θ' X' s'.heap ρ μ' → Q c μ' → Rest s s' → Q' c s')
    (kx : ∀ v s', PostX G A env ns ρ θ X s Ex v s' → E' v s') : wpAny G.M A (isTrue x env (eval x env)) Q' E' s :=
  wpAny_mono (H A env θ X s ρ μ Q Ex hA he S p) (fun c s' ⟨θ', X', μ', e, S', q, r⟩ => k c s' θ' X' μ' e S' q r) kx
end
end Mine
namespace Mine
open PySem PySem.W PySem.Calls PyProof.Rows

section
variable {G : Gr} {b : Nat} {fs : Fs} {ns : List Str}

/-! ## constants -/
def tD (d : D) : PE := fun _ μ Q _ => Q d μ
theorem EV_int {i : Int} {k pos} : EV G b fs ns (.Constant (.int i) k pos) (tD (.int i)) := fun A env θ X s ρ μ Q Ex hA he S p =>
  wpAny_Constant_int ⟨θ, X, .int i, μ, .refl, S, .int i _, p, rfl⟩
theorem EV_none {k pos} : EV G b fs ns (.Constant .none k pos) (tD .none) := fun A env θ X s ρ μ Q Ex hA he S p =>
  wpAny_Constant_none ⟨θ, X, .none, μ, .refl, S, .none, p, .refl⟩
theorem EV_bool {c : Bool} {k pos} : EV G b fs ns (.Constant (.bool c) k pos) (tD (.bool c)) := fun A env θ X s ρ μ Q Ex hA he S p =>
  wpAny_Constant_bool ⟨θ, X, .bool c, μ, .refl, S, .bool c, p, .refl⟩
theorem EV_str {x : Str} {k pos} : EV G b fs ns (.Constant (.str x) k pos) (tD (.str x)) := fun A env θ X s ρ μ Q Ex hA he S p =>
  wpAny_Constant_str ⟨θ, X, .str x, μ, .refl, S, .str x _, p, rfl⟩
theorem EV_bytes {x : List UInt8} {k pos} : EV G b fs ns (.Constant (.bytes x) k pos) (tD (.bytes x)) := fun A env θ X s ρ μ Q Ex hA he S p =>
  Constant_bytes ⟨θ, X, .bytes x, μ, .refl, S, .bytes x _, p, rfl⟩

/-! ## names -/
def need {α : Type} (o : Option α) (k : α → Prop) : Prop := match o with
  | some a => k a
  | none => False
/-- as the kernel meets it: unfolded ahead of all else -/
abbrev Nd {α : Type} (o : Option α) (k : α → Prop) : Prop := match o with
  | some a => k a
  | none => False
theorem need.elim {α : Type} {p : Prop} : ∀ {o : Option α} {k : α → Prop}, need o k → (∀ a, o = some a → k a → p) → p
  | some a, _, h, f => f a rfl h
theorem need.out {α : Type} : ∀ {o : Option α} {k : α → Prop}, need o k → ∃ a, o = some a ∧ k a
  | some a, _, h => ⟨a, rfl, h⟩
/-- a bound that is reckoned where it stands in figures -/
def guard (c : Bool) (p : Prop) : Prop := match c with
  | true => p
  | false => False
abbrev Gd (c : Bool) (p : Prop) : Prop := match c with
  | true => p
  | false => False
theorem guard.out : ∀ {c : Bool} {p : Prop}, guard c p → c = true ∧ p
  | true, _, h => ⟨rfl, h⟩
theorem guard.le {m n : Nat} {p : Prop} (h : guard (Nat.ble m n) p) : m ≤ n ∧ p := ⟨Nat.le_of_ble_eq_true h.out.1, h.out.2⟩
def tVar (i : Nat) : PE := fun ρ μ Q _ => need ρ[i]?.join fun d => Q d μ
def nameOk (fs : Fs) (x : Str) : Bool := (fs.sc.names.lookup x == some .local || fs.sc.names.lookup x == some .cell || fs.sc.names.lookup x == some .free) && x != "__debug__" && x != "__classdict__"
theorem wpAny_var {M : Model} {A : Around} {env : Env} {x : Str} {v : Value} {Q : Value → Shared → Prop} {E : Value → Shared → Prop} {s : Shared} (hk : env.scope.kind = .function) (V : VarAt s.heap env x v) (hc : (x == ("__classdict__" : Str)) = false) (h : Q v s) :
    wpAny M A (loadName env x) Q E s := by
  rcases V with ⟨h1, m, h2, h3⟩ | ⟨h1 | h1, c, h2, h3⟩
  · exact wpAny_loadName_local hk h1 h2 h3 h
  · exact wpAny_loadName_cell hk h1 h2 h3 h
  · exact wpAny_loadName_free hk h1 h2 h3 h hc
theorem EV_var (i : Nat) {x : Str} {pos} (hi : ns[i]? = some x) (hd : (x == ("__debug__" : Str)) = false) (hc : (x == ("__classdict__" : Str)) = false) : EV G b fs ns (.Name x pos) (tVar i) := fun A env θ X s ρ μ Q Ex hA he S p => by
  obtain ⟨d, hd', p⟩ := need.out p
  obtain ⟨y, v, e1, V, R⟩ := S.var i d (Option.join_eq_some_iff.mp hd')
  cases hi.symm.trans e1
  exact wpAny_Name (wpAny_var S.eo.kind V hc ⟨θ, X, d, μ, .refl, S, R, p, .refl⟩) hd

/-- a datum of the base: the same in every heap above it -/
def BRep (G : Gr) (v : Value) (d : D) : Prop := ∀ h θ X, (∀ b o, G.h₀.get? b = some o → h.get? b = some o) → (∀ a ∈ X, G.h₀.get? a = none) → Rep G h θ X v d
theorem BRep.int {i : Int} {t} : BRep G (.int i t) (.int i) := fun _ _ _ _ _ => .int i t
theorem BRep.ty {t : Ty} : BRep G (.type t.name) (.ty t) := fun _ _ _ _ _ => .ty t
theorem EV_glob (O : G.Ok) {x : Str} {pos} {v : Value} {d : D} (hx : fs.sc.names.lookup x = some .globalImplicit) (hn : nsIn G.K mainGlobals x = some (some v)) (hr : BRep G v d) (hd : (x == ("__debug__" : Str)) = false) :
    EV G b fs ns (.Name x pos) (tD d) := fun A env θ X s ρ μ Q Ex hA he S p => by
  obtain ⟨_, _, T⟩ := O.T
  refine Name_function_global S.eo.kind (by unfold Env.kindOf; rw [he.1]; exact hx) (loadGlobal_global (env := env) (by rw [S.eo.glob]; exact T.g.keeps S.inv.base) (mg_of O.X T.g hn) ?_) hd
  exact ⟨θ, X, d, μ, .refl, S, hr _ _ _ S.inv.base S.own.new, p, .refl⟩
theorem EV_bi (O : G.Ok) {x : Str} {pos} {v : Value} {d : D} (hx : fs.sc.names.lookup x = some .globalImplicit) (hn : nsIn G.K mainGlobals x = some none) (hv : bootBuiltins x = some v) (hx' : x ≠ "__name__") (hr : BRep G v d) (hd : (x == ("__debug__" : Str)) = false) :
    EV G b fs ns (.Name x pos) (tD d) := fun A env θ X s ρ μ Q Ex hA he S p => by
  obtain ⟨_, _, T⟩ := O.T
  refine Name_function_global S.eo.kind (by unfold Env.kindOf; rw [he.1]; exact hx) (loadGlobal_builtin (env := env) (by rw [S.eo.glob]; exact T.g.keeps S.inv.base) (mg_none_of O.X T.g hn) (by rw [he.2.2.2.1]; exact T.b.keeps S.inv.base) ((T.builtins x hx').trans hv) ?_) hd
  exact ⟨θ, X, d, μ, .refl, S, hr _ _ _ S.inv.base S.own.new, p, .refl⟩

/-! ## lists as they may be read -/
theorem non {α : Type} {a : α} {p : Prop} (e : none = some a) : p := nomatch e
def MO.list? : MO → Option (List D)
  | .list ds => some ds
  | _ => none
def viewL (μ : List MO) : D → Option (List D)
  | .list ds => some ds
  | .hl k => μ[k]?.bind MO.list?
  | _ => none
inductive IsL (G : Gr) (h : Heap) (θ X : List Addr) (ds : List D) : Value → Prop
  | mk {a : Addr} {vs : List Value} {n : Nat} : h.get? a = some (listOf vs.toArray n) → Reps G h θ X vs ds → IsL G h θ X ds (.ref a)
theorem viewL_rep {h : Heap} {θ X : List Addr} {μ : List MO} {v : Value} {d : D} {ds : List D} (R : Rep G h θ X v d) (M : Muts G h θ X μ) (e : viewL μ d = some ds) :
    IsL G h θ X ds v := by
  cases d with
  | list =>
    obtain ⟨h1, _, h3⟩ := R
    exact .mk h1 (Option.some.inj e ▸ h3)
  | hl =>
    obtain ⟨h1⟩ := R
    obtain ⟨mo, hm, e⟩ := Option.bind_eq_some_iff.mp e
    have m := M.2 _ _ _ h1 hm
    cases mo with
    | list =>
      obtain ⟨e1, e2⟩ := m
      exact .mk e1 (Option.some.inj e ▸ e2.cl)
    | _ => exact non e
  | _ => exact non e

/-! ## two operands -/
abbrev T2 := List MO → D → D → (D → Prop) → Prop
def Op2 (G : Gr) (b : Nat) (m : Value → Value → Sem Value) (T : T2) : Prop :=
  ∀ (A : Around) (θ X : List Addr) (s : Shared) μ v₁ v₂ d₁ d₂ Q, AOk A b → (∀ b o, G.h₀.get? b = some o → s.heap.get? b = some o) → (∀ a ∈ X, a < s.heap.objs.size) → Muts G s.heap θ X μ → Rep G s.heap θ X v₁ d₁ → Rep G s.heap θ X v₂ d₂ → T μ d₁ d₂ Q → VOk G A θ X s (m v₁ v₂) Q
def t2 (P R : PE) (T : T2) : PE := fun ρ μ Q Ex => P ρ μ (fun d₁ μ₁ => R ρ μ₁ (fun d₂ μ₂ => T μ₂ d₁ d₂ (fun d => Q d μ₂)) Ex) Ex

/-- two operands in a row, then an operation upon them -/
theorem ev2 {x y : Expr} {P R : PE} {T : T2} {m : Value → Value → Sem Value} (hx : EV G b fs ns x P) (hy : EV G b fs ns y R) (hm : Op2 G b m T)
    {A : Around} {env : Env} {θ X : List Addr} {s : Shared} {ρ μ Q Ex} (hA : AOk A b) (he : fs.ok env) (S : Stt G A env ns θ X s.heap ρ μ) (p : t2 P R T ρ μ Q Ex) :
    wpAny G.M A (eval x env) (fun v₁ s₁ => wpAny G.M A (eval y env) (fun v₂ s₂ => wpAny G.M A (m v₁ v₂) (Post G A env ns ρ θ X s Q) (PostX G A env ns ρ θ X s Ex) s₂) (PostX G A env ns ρ θ X s Ex) s₁) (PostX G A env ns ρ θ X s Ex) s :=
  hx.go hA he S p (fun v₁ s₁ θ₁ X₁ d₁ μ₁ e₁ S₁ R₁ p₁ r₁ => hy.go hA he S₁ p₁ (fun v₂ s₂ θ₂ X₂ d₂ μ₂ e₂ S₂ R₂ p₂ r₂ =>
    (hm A θ₂ X₂ s₂ μ₂ v₁ v₂ d₁ d₂ _ hA S₂.inv.base S₂.own.lt S₂.muts (R₁.ext S₁.own e₂) R₂ p₂).post S₂ (e₁.trans e₂) (r₁.trans r₂))
    fun v s' q => q.rebase e₁ r₁) fun _ _ q => q

theorem EV_bin {x y : Expr} {P R : PE} {T : T2} {op : Operator} {pos} (hx : EV G b fs ns x P) (hy : EV G b fs ns y R) (hm : Op2 G b (binaryOp op) T) : EV G b fs ns (.BinOp x op y pos) (t2 P R T) :=
  fun A env θ X s ρ μ Q Ex hA he S p => wpAny_BinOp (ev2 hx hy hm hA he S p)
theorem EV_cmp {x y : Expr} {P R : PE} {T : T2} {op : CmpOp} {pos} (hx : EV G b fs ns x P) (hy : EV G b fs ns y R) (hm : Op2 G b (compareOp op) T) (hb : behindInMarks op y = false) : EV G b fs ns (.Compare x [op] [y] pos) (t2 P R T) :=
  fun A env θ X s ρ μ Q Ex hA he S p => wpAny_Compare1 (ev2 hx hy hm hA he S p) hb

/-! ## the operations -/
def D.int? : D → Option Int
  | .int i => some i
  | _ => Option.none
def D.bytes? : D → Option (List UInt8)
  | .bytes i => some i
  | _ => Option.none
theorem D.ofInt {d : D} {i : Int} (e : d.int? = some i) : d = .int i := by
  cases d with
  | int => exact congrArg D.int (Option.some.inj e)
  | _ => exact non e
theorem D.ofBytes {d : D} {i : List UInt8} (e : d.bytes? = some i) : d = .bytes i := by
  cases d with
  | bytes => exact congrArg D.bytes (Option.some.inj e)
  | _ => exact non e
theorem Rep.ofInt {h : Heap} {θ X : List Addr} {v : Value} {d : D} {i : Int} (e : d.int? = some i) (R : Rep G h θ X v d) : ∃ t, v = .int i t := (D.ofInt e ▸ R : Rep G h θ X v (.int i))
theorem Rep.ofBytes {h : Heap} {θ X : List Addr} {v : Value} {d : D} {l : List UInt8} (e : d.bytes? = some l) (R : Rep G h θ X v d) : ∃ t, v = .bytes l.toArray t := (D.ofBytes e ▸ R : Rep G h θ X v (.bytes l))
/-- two ints, both ready -/
theorem two_ints {h : Heap} {θ X : List Addr} {v₁ v₂ : Value} {d₁ d₂ : D} {K : Int → Int → Prop} (R₁ : Rep G h θ X v₁ d₁) (R₂ : Rep G h θ X v₂ d₂) (p : need d₁.int? fun a => need d₂.int? (K a))
    {C : Value → Value → Prop} (k : ∀ a b t u, K a b → C (.int a t) (.int b u)) : C v₁ v₂ :=
  p.elim fun a ha p => need.elim p fun b hb p => (R₁.ofInt ha).elim fun t e => (R₂.ofInt hb).elim fun u e' => e ▸ e' ▸ k a b t u p
def nn2 (f : Nat → Nat → Nat) (g : Int → Int → Int) : Int → Int → Int
  | .ofNat m, .ofNat n => .ofNat (f m n)
  | a, b => g a b
theorem nn2_eq {f : Nat → Nat → Nat} {g : Int → Int → Int} (h : ∀ m n : Nat, g (.ofNat m) (.ofNat n) = .ofNat (f m n)) : ∀ a b, nn2 f g a b = g a b
  | .ofNat m, .ofNat n => (h m n).symm
  | .negSucc _, _ => rfl
  | .ofNat _, .negSucc _ => rfl
def tInt2 (f : Int → Int → Int) (c : Int → Int → Bool) : T2 := fun _ d₁ d₂ Q => need d₁.int? fun a => need d₂.int? fun b => guard (c a b) (Q (.int (f a b)))
def tInt2' (f : Int → Int → Int) : T2 := fun _ d₁ d₂ Q => need d₁.int? fun a => need d₂.int? fun b => Q (.int (f a b))
theorem op_int {m : Value → Value → Sem Value} {f g : Int → Int → Int} {c : Int → Int → Bool} (e : ∀ a b, f a b = g a b)
    (h : ∀ {A : Around} {s : Shared} {a b : Int} {t u : Tok} {Q : Value → Shared → Prop} {E : Value → Shared → Prop}, c a b = true → Q (.int (g a b) s.toks) { s with toks := s.toks + 1 } → wpAny G.M A (m (.int a t) (.int b u)) Q E s) :
    Op2 G b m (tInt2 f c) := fun A θ X s μ v₁ v₂ d₁ d₂ Q hA hb hl hM R₁ R₂ p => by
  exact two_ints R₁ R₂ p (C := fun v₁ v₂ => VOk G A θ X s (m v₁ v₂) Q) fun a b t u p => h p.out.1 ⟨_, .int _ _, .refl, e a b ▸ p.out.2, rfl⟩
theorem op_int' {m : Value → Value → Sem Value} {f g : Int → Int → Int} (e : ∀ a b, f a b = g a b)
    (h : ∀ {A : Around} {s : Shared} {a b : Int} {t u : Tok} {Q : Value → Shared → Prop} {E : Value → Shared → Prop}, Q (.int (g a b) s.toks) { s with toks := s.toks + 1 } → wpAny G.M A (m (.int a t) (.int b u)) Q E s) :
    Op2 G b m (tInt2' f) := fun A θ X s μ v₁ v₂ d₁ d₂ Q hA hb hl hM R₁ R₂ p => by
  exact two_ints R₁ R₂ p (C := fun v₁ v₂ => VOk G A θ X s (m v₁ v₂) Q) fun a b t u p => h ⟨_, .int _ _, .refl, e a b ▸ p, rfl⟩
def addI : Int → Int → Int := nn2 (· + ·) (· + ·)
theorem addI_eq : ∀ a b, addI a b = a + b := nn2_eq fun _ _ => rfl
theorem op_add : Op2 G b (binaryOp .Add) (tInt2' addI) := op_int' addI_eq fun h => add_int h
theorem op_sub : Op2 G b (binaryOp .Sub) (tInt2' (· - ·)) := op_int' (fun _ _ => rfl) fun h => sub_int h
def smI (a : Int) : Bool := Nat.ble a.natAbs 18446744073709551615
theorem smI_lt {a : Int} (h : smI a = true) : a.natAbs < 2 ^ 64 := Nat.lt_succ_of_le (Nat.le_of_ble_eq_true h)
def cMul : Int → Int → Bool := fun a b => smI b || smI a
def cMulL : Int → Int → Bool := fun a _ => smI a
theorem intMulOk_of {a b : Int} (h : a.natAbs < 2 ^ 64 ∨ b.natAbs < 2 ^ 64) : IntMulOk a b := by
  rcases h with h | h
  · exact .of_left (intBits_le h)
  · have h' : ¬ (Builtin.Int.intBits b > shortFactorBits) := Nat.not_lt.mpr (intBits_le h)
    unfold IntMulOk; rw [decide_eq_false h', Bool.and_false]; exact Bool.false_ne_true
def mulI : Int → Int → Int := nn2 (· * ·) (· * ·)
theorem op_mul : Op2 G b (binaryOp .Mult) (tInt2 mulI cMul) := op_int (nn2_eq fun _ _ => rfl) fun c h => mul_int h (intMulOk_of (((Bool.or_eq_true _ _).mp c).symm.imp smI_lt smI_lt))
theorem op_mulL : Op2 G b (binaryOp .Mult) (tInt2 mulI cMulL) := op_int (nn2_eq fun _ _ => rfl) fun c h => mul_int h (intMulOk_of (.inl (smI_lt c)))
def cMod : Int → Int → Bool := fun _ b => Nat.ble 1 b.natAbs
theorem cMod.ne {a b : Int} (h : cMod a b = true) : b ≠ 0 := fun q => nomatch (show Nat.ble 1 (0 : Int).natAbs = true from q ▸ h)
def cDiv : Int → Int → Bool := fun a b => Nat.ble 1 b.natAbs && Nat.ble b.natAbs 1073741823
theorem cDiv.out {a b : Int} (h : cDiv a b = true) : cMod a b = true ∧ b.natAbs < 1073741824 := ((Bool.and_eq_true _ _).mp h).imp id fun h => Nat.lt_succ_of_le (Nat.le_of_ble_eq_true h)
def divI : Int → Int → Int := nn2 (· / ·) Int.fdiv
theorem divI_eq : ∀ a b, divI a b = Int.fdiv a b := nn2_eq fun m n => Int.fdiv_eq_ediv_of_nonneg _ (Int.natCast_nonneg n)
theorem op_div : Op2 G b (binaryOp .FloorDiv) (tInt2 divI cDiv) := op_int divI_eq fun c h => floordiv_int (cMod.ne (a := 0) (cDiv.out c).1) h (.inl (PyProof.noPylong_small (cDiv.out c).2))
def modI : Int → Int → Int := nn2 (· % ·) Int.fmod
theorem op_mod : Op2 G b (binaryOp .Mod) (tInt2 modI cMod) := op_int (nn2_eq fun m n => Int.fmod_eq_emod_of_nonneg _ (Int.natCast_nonneg n)) fun c h => mod_int' (cMod.ne (a := 0) c) h
/-- a power's second part -/
def cPow : Int → Int → Bool := fun a n => match n with
  | .ofNat k => Nat.ble k 1000000 && smI a
  | _ => false
theorem cPow.out : ∀ {a n : Int}, cPow a n = true → 0 ≤ n ∧ n ≤ 1000000 ∧ a.natAbs < 2 ^ 64
  | _, .ofNat k, h =>
    have h := (Bool.and_eq_true _ _).mp h
    ⟨Int.natCast_nonneg k, Int.ofNat_le.mpr (Nat.le_of_ble_eq_true h.1), smI_lt h.2⟩
def powI : Int → Int → Int := nn2 (· ^ ·) fun a n => a ^ n.toNat
theorem op_pow : Op2 G b (binaryOp .Pow) (tInt2 powI cPow) := op_int (nn2_eq fun m n => (Int.natCast_pow m n).symm) fun c h => pow_int_small (cPow.out c).1 (cPow.out c).2.1 (cPow.out c).2.2 h
def shlI : Int → Int → Int := nn2 (fun m n => m * 2 ^ n) fun a n => a * 2 ^ n.toNat
theorem op_shl : Op2 G b (binaryOp .LShift) (tInt2 shlI cPow) := op_int (nn2_eq fun m n => congrArg ((m : Int) * ·) (Int.natCast_pow 2 n).symm) fun c h => lshift_int_small (cPow.out c).1 (cPow.out c).2.1 (cPow.out c).2.2 h
def cShr : Int → Int → Bool := fun _ n => match n with
  | .ofNat _ => true
  | _ => false
theorem cShr.out : ∀ {a n : Int}, cShr a n = true → 0 ≤ n
  | _, .ofNat k, _ => Int.natCast_nonneg k
def shrI : Int → Int → Int := nn2 (fun m n => m / 2 ^ n) fun a n => a.fdiv (2 ^ n.toNat)
theorem op_shr : Op2 G b (binaryOp .RShift) (tInt2 shrI cShr) := op_int (nn2_eq fun m n => (congrArg (Int.fdiv (m : Int)) (Int.natCast_pow 2 n).symm).trans (Int.fdiv_eq_ediv_of_nonneg _ (Int.natCast_nonneg (2 ^ n)))) fun c h => rshift_int (cShr.out c) h
theorem dec_nat (a : Nat) : decide (0 ≤ Int.ofNat a) = true := decide_eq_true (Int.natCast_nonneg a)
theorem and_nat (a b : Nat) : Builtin.bitAnd (.ofNat a) (.ofNat b) = .ofNat (a &&& b) := by
  unfold Builtin.bitAnd
  rw [dec_nat, dec_nat]; rfl
theorem dec_not (a : Nat) : decide (0 ≤ Builtin.bitNot (.ofNat a)) = false := decide_eq_false fun q => absurd (show (0 : Int) ≤ -(a : Int) - 1 from q) (by omega)
theorem not_not (x : Int) : Builtin.bitNot (Builtin.bitNot x) = x := by show -(-x - 1) - 1 = x; omega
theorem or_nat (a b : Nat) : Builtin.bitOr (.ofNat a) (.ofNat b) = .ofNat (a ||| b) := by
  unfold Builtin.bitOr Builtin.bitAnd
  rw [dec_not, dec_not, not_not, not_not, not_not]; rfl
def andI : Int → Int → Int := nn2 (· &&& ·) Builtin.bitAnd
theorem op_and : Op2 G b (binaryOp .BitAnd) (tInt2' andI) := op_int' (nn2_eq and_nat) fun h => and_int h
theorem op_xor : Op2 G b (binaryOp .BitXor) (tInt2' Builtin.bitXor) := op_int' (fun _ _ => rfl) fun h => xor_int h
def orI : Int → Int → Int := nn2 (· ||| ·) Builtin.bitOr
theorem op_ior : Op2 G b (inplaceOp .BitOr) (tInt2' orI) := op_int' (nn2_eq or_nat) fun h => ior_int h
theorem op_iadd : Op2 G b (inplaceOp .Add) (tInt2' addI) := op_int' addI_eq fun h => iadd_int h

def tCat : T2 := fun _ d₁ d₂ Q => need d₁.bytes? fun a => need d₂.bytes? fun b => guard (Nat.ble (a.length + b.length) 16777216) (Q (.bytes (a ++ b)))
theorem op_cat : Op2 G b (binaryOp .Add) tCat := fun A θ X s μ v₁ v₂ d₁ d₂ Q hA hb hl hM R₁ R₂ p => by
  obtain ⟨x, ha, p⟩ := p.out
  obtain ⟨y, hb, p⟩ := p.out
  obtain ⟨t, rfl⟩ := R₁.ofBytes ha
  obtain ⟨u, rfl⟩ := R₂.ofBytes hb
  have p := guard.le p
  refine KBy.add_bytes p.1 fun t' k => ?_
  rw [List.append_toArray]
  exact ⟨_, .bytes _ _, .refl, p.2, rfl⟩
end
end Mine
namespace Mine
open PySem PySem.W PySem.Calls PyProof.Rows

section
variable {G : Gr} {b : Nat} {fs : Fs} {ns : List Str}

/-! ## data as the library compares them -/
mutual
def pyD : D → PyData
  | .none => .none
  | .bool b => .bool b
  | .int i => .int i
  | .str x => .str x
  | .tup l => .tuple (pyDs l)
  | .list l => .list (pyDs l)
  | _ => .none
def pyDs : List D → List PyData
  | [] => []
  | d :: r => pyD d :: pyDs r
end
mutual
def okD : Nat → D → Bool
  | _, .none => true
  | _, .bool _ => true
  | _, .int _ => true
  | _, .str x => PyData.strOk x
  | n, .tup l => match n with
    | 0 => false
    | n + 1 => okDs n l
  | n, .list l => match n with
    | 0 => false
    | n + 1 => okDs n l
  | _, .bytes _ => false
  | _, .inst _ _ => false
  | _, .hl _ => false
  | _, .hi _ _ => false
  | _, .ty _ => false
  | _, .val _ => false
def okDs : Nat → List D → Bool
  | _, [] => true
  | n, d :: r => okD n d && okDs n r
end
def unH (μ : List MO) (d : D) : D := match viewL μ d with
  | some ds => .list ds
  | none => d
theorem and2 {a b : Bool} (h : (a && b) = true) : a = true ∧ b = true := (Bool.and_eq_true _ _ ▸ h : _ ∧ _)

theorem reads_list_at' {h : Heap} {a : Addr} {vs : List Value} {n : Nat} {xs : List PyData} {as : List Addr} (e : h.get? a = some (listOf vs.toArray n)) (r : ReadsAll h vs xs as) : Reads h (.ref a) (.list xs) (a :: as) := .list e rfl rfl r
theorem rep_reads {h : Heap} {θ X : List Addr} : ∀ d n v, Rep G h θ X v d → okD n d = true → ∃ as, Reads h v (pyD d) as :=
  D.rec (motive_1 := fun d => ∀ n v, Rep G h θ X v d → okD n d = true → ∃ as, Reads h v (pyD d) as) (motive_2 := fun ds => ∀ n vs, Reps G h θ X vs ds → okDs n ds = true → ∃ as, ReadsAll h vs (pyDs ds) as)
    (fun _ _ e _ => e ▸ ⟨_, .none⟩) (fun _ _ _ e _ => e ▸ ⟨_, .bool _⟩) (fun _ _ _ e _ => e.elim fun t e => e ▸ ⟨_, .int _ t⟩) (fun _ _ _ e _ => e.elim fun t e => e ▸ ⟨_, .str _ t⟩) (fun _ _ _ _ k => nomatch k)
    (fun _ ih n _ R k => by
      obtain ⟨e, _, r⟩ := R
      cases n with
      | zero => exact nomatch k
      | succ n => exact (ih n _ r k).elim fun as q => ⟨_, .tuple e rfl rfl q⟩)
    (fun _ ih n _ R k => by
      obtain ⟨e, _, r⟩ := R
      cases n with
      | zero => exact nomatch k
      | succ n => exact (ih n _ r k).elim fun as q => ⟨_, reads_list_at' e q⟩)
    (fun _ _ _ _ _ _ k => nomatch k) (fun _ _ _ _ k => nomatch k) (fun _ _ _ _ _ k => nomatch k) (fun _ _ _ _ k => nomatch k) (fun _ _ _ _ k => nomatch k)
    (fun _ _ e _ => e ▸ ⟨_, .nil⟩) (fun _ _ i j n _ R k => by
      obtain ⟨a, b⟩ := R
      obtain ⟨as, q⟩ := i n _ a (and2 k).1
      exact (j n _ b (and2 k).2).elim fun bs p => ⟨_, .cons q p⟩)
theorem reps_reads {h : Heap} {θ X : List Addr} : ∀ (ds : List D) {n : Nat} {vs : List Value}, Reps G h θ X vs ds → okDs n ds = true → ∃ as, ReadsAll h vs (pyDs ds) as
  | [], _, _, e, _ => e ▸ ⟨_, .nil⟩
  | _ :: _, _, _, .mk a b, k => by
    obtain ⟨as, q⟩ := rep_reads _ _ _ a (and2 k).1
    exact (reps_reads _ b (and2 k).2).elim fun bs p => ⟨_, .cons q p⟩
theorem ok_lay : ∀ d n, okD n d = true → (pyD d).canLay0 = true ∧ (pyD d).depth ≤ n :=
  D.rec (motive_1 := fun d => ∀ n, okD n d = true → (pyD d).canLay0 = true ∧ (pyD d).depth ≤ n) (motive_2 := fun ds => ∀ n, okDs n ds = true → PyData.canLayAll0 (pyDs ds) = true ∧ PyData.depthAll (pyDs ds) ≤ n)
    (fun _ _ => ⟨rfl, Nat.zero_le _⟩) (fun _ _ _ => ⟨rfl, Nat.zero_le _⟩) (fun _ _ _ => ⟨rfl, Nat.zero_le _⟩) (fun _ _ k => ⟨k, Nat.zero_le _⟩) (fun _ _ k => nomatch k)
    (fun _ ih n k => by
      cases n with
      | zero => exact nomatch k
      | succ n => exact ⟨(ih n k).1, Nat.succ_le_succ (ih n k).2⟩)
    (fun _ ih n k => by
      cases n with
      | zero => exact nomatch k
      | succ n => exact ⟨(ih n k).1, Nat.succ_le_succ (ih n k).2⟩)
    (fun _ _ _ _ k => nomatch k) (fun _ _ k => nomatch k) (fun _ _ _ k => nomatch k) (fun _ _ k => nomatch k) (fun _ _ k => nomatch k)
    (fun _ _ => ⟨rfl, Nat.zero_le _⟩) (fun _ _ i j n k => ⟨Bool.and_eq_true _ _ ▸ ⟨(i n (and2 k).1).1, (j n (and2 k).2).1⟩, Nat.max_le.mpr ⟨(i n (and2 k).1).2, (j n (and2 k).2).2⟩⟩)
theorem oks_lay : ∀ (ds : List D) {n : Nat}, okDs n ds = true → PyData.canLayAll0 (pyDs ds) = true ∧ PyData.depthAll (pyDs ds) ≤ n
  | [], _, _ => ⟨rfl, Nat.zero_le _⟩
  | d :: r, n, k => ⟨Bool.and_eq_true _ _ ▸ ⟨(ok_lay d n (and2 k).1).1, (oks_lay r (and2 k).2).1⟩, Nat.max_le.mpr ⟨(ok_lay d n (and2 k).1).2, (oks_lay r (and2 k).2).2⟩⟩
theorem ok_shaped {n : Nat} {d : D} (h : okD n d = true) (hn : n ≤ 64) : SeqAt.shaped (pyD d) = true := Bool.and_eq_true _ _ ▸ ⟨(ok_lay d n h).1, decide_eq_true (Nat.le_trans (ok_lay d n h).2 hn)⟩

def negB (neg : Bool) (c : Bool) : Bool := match neg with
  | true => !c
  | false => c
def eqI : Int → Int → Bool
  | .ofNat m, .ofNat n => decide (m = n)
  | a, b => decide (a = b)
theorem eqI_eq : ∀ a b, eqI a b = decide (a = b)
  | .ofNat m, .ofNat n => decide_eq_decide.mpr ⟨congrArg _, Int.ofNat.inj⟩
  | .negSucc _, _ => rfl
  | .ofNat _, .negSucc _ => rfl
def D.pair? : D → Option (Int × List UInt8)
  | .tup (a :: b :: []) => a.int?.bind fun x => b.bytes?.map fun y => (x, y)
  | _ => Option.none
theorem D.ofPair {d : D} {z : Int × List UInt8} (e : d.pair? = some z) : d = .tup [.int z.1, .bytes z.2] := by
  cases d with
  | tup l => cases l with
    | nil => exact non e
    | cons a l => cases l with
      | nil => exact non e
      | cons b l => cases l with
        | cons => exact non e
        | nil =>
          obtain ⟨x, hx, e⟩ := Option.bind_eq_some_iff.mp e
          obtain ⟨y, hy, rfl⟩ := Option.map_eq_some_iff.mp e
          exact D.ofInt hx ▸ D.ofBytes hy ▸ rfl
  | _ => exact non e
/-- equality of data, as Python has it (a datum with octets apart) -/
def tEqG (neg : Bool) : T2 := fun μ d₁ d₂ Q => guard (okD 32 (unH μ d₁)) (guard (okD 32 (unH μ d₂)) (Q (.bool (negB neg (PyData.eqv (pyD (unH μ d₁)) (pyD (unH μ d₂)))))))
def tEqP (neg : Bool) (μ : List MO) (d₁ d₂ : D) (Q : D → Prop) : Option (Int × List UInt8) → Prop
  | some x => need d₂.pair? fun y => neg = false ∧ Q (.bool (eqI x.1 y.1 && decide (x.2 = y.2)))
  | none => tEqG neg μ d₁ d₂ Q
def cOp : Bool → CmpOp
  | true => .NotEq
  | false => .Eq
def tEq (neg : Bool) : T2 := fun μ d₁ d₂ Q => match d₁ with
  | .int a => need d₂.int? fun b => Q (.bool (negB neg (eqI a b)))
  | .bytes a => need d₂.bytes? fun b => Q (.bool (negB neg (decide (a = b))))
  | .tup l => tEqP neg μ (.tup l) d₂ Q (D.pair? (.tup l))
  | d₁ => tEqG neg μ d₁ d₂ Q

theorem unH_reads {h : Heap} {θ X : List Addr} {μ : List MO} {v : Value} {d : D} (R : Rep G h θ X v d) (M : Muts G h θ X μ) (hk : okD 32 (unH μ d) = true) : ∃ as, Reads h v (pyD (unH μ d)) as := by
  unfold unH at hk ⊢
  cases hv : viewL μ d with
  | none => rw [hv] at hk; exact rep_reads d 32 v R hk
  | some ds =>
    rw [hv] at hk
    obtain ⟨g, r⟩ := viewL_rep R M hv
    exact (reps_reads ds (n := 31) r hk).elim fun as q => ⟨_, reads_list_at' g q⟩
theorem aok_units {A : Around} (h : AOk A b) : A.units + 64 < cLine := by have := h.2.2; have : cLine = 9900 := rfl; omega

theorem bd {α : Type} [DecidableEq α] [BEq α] [LawfulBEq α] (a b : α) : (a == b) = decide (a = b) := by by_cases h : a = b <;> simp [h]
theorem eqAt_bytes {A : Around} {s : Shared} {x y : List UInt8} {t u : Tok} : SeqAt.EqAt A s (.bytes x.toArray t) (.bytes y.toArray u) (decide (x = y)) := fun prog w E Q hq => by
  unfold eqBool
  refine wpAny_holding ?_
  refine wpAny_ite_split (fun hab => ?_) (fun _ => ?_)
  · have e := eq_of_beq hab
    injection e with e1 e2
    rw [decide_eq_true (List.toArray_inj e1)] at hq
    exact wpAny_bind (wpAny_rule (wpAny_pure hq))
  · refine wpAny_bind ?_
    show wpAny _ _ (compareOp .Eq (.bytes x.toArray t) (.bytes y.toArray u)) _ _ _
    exact eq_bytes (wpAny_truthy_bool (by rw [bd]; exact hq))
theorem eqAt_int {A : Around} {s : Shared} {a b : Int} {t u : Tok} (hu : A.units < cLine) : SeqAt.EqAt A s (.int a t) (.int b u) (decide (a = b)) := by
  have := SeqAt.eqAt_reads (.int a) (.int b) A s (.int a t) (.int b u) _ _ (.int a t) (.int b u) rfl rfl (Nat.lt_of_le_of_lt (Nat.le_of_eq rfl) hu)
  rwa [show PyData.eqv (.int a) (.int b) = (a == b) from rfl, bd] at this
inductive Pair (h : Heap) (a : Int) (x : List UInt8) : Value → Prop
  | mk {l : Addr} {t u : Tok} : h.IsTuple l #[.int a t, .bytes x.toArray u] → Pair h a x (.ref l)
theorem Rep.pair {h : Heap} {θ X : List Addr} {v : Value} {a : Int} {x : List UInt8} (R : Rep G h θ X v (.tup [.int a, .bytes x])) : Pair h a x v := by
  obtain ⟨e, _, ⟨⟨_, rfl⟩, ⟨⟨_, rfl⟩, rfl⟩⟩⟩ := R
  exact .mk ⟨_, e, rfl, _, rfl⟩
theorem eq_pair {A : Around} {s : Shared} {v₁ v₂ : Value} {a c : Int} {x y : List UInt8} {Q : Value → Shared → Prop} {E : Value → Shared → Prop} (hu : A.units + 1 < cLine) (p : Pair s.heap a x v₁) (q : Pair s.heap c y v₂) (h : Q (.bool (decide (a = c) && decide (x = y))) s) :
    wpAny G.M A (compareOp .Eq v₁ v₂) Q E s := by
  obtain ⟨h1⟩ := p
  obtain ⟨h2⟩ := q
  refine SeqAt.eq_tupleAt (e := fun j => if j = 0 then decide (a = c) else decide (x = y)) h1 h2 (Nat.lt_of_succ_lt hu) (fun j j1 j2 => ?_) ?_
  · match j, j1, j2 with
    | 0, _, _ => exact eqAt_int hu
    | 1, _, _ => exact eqAt_bytes
  · have e : (decide (a = c) && decide (x = y)) = ((List.range 2).all (fun j => if j = 0 then decide (a = c) else decide (x = y)) && true) := by
      show _ = ((decide (a = c) && (decide (x = y) && true)) && true)
      rw [Bool.and_true, Bool.and_true]
    exact e ▸ h
theorem op_eqG {neg : Bool} {A : Around} {θ X : List Addr} {s : Shared} {μ v₁ v₂ d₁ d₂ Q} (hA : AOk A b) (hM : Muts G s.heap θ X μ) (R₁ : Rep G s.heap θ X v₁ d₁) (R₂ : Rep G s.heap θ X v₂ d₂) (p : tEqG neg μ d₁ d₂ Q) :
    VOk G A θ X s (compareOp (cOp neg) v₁ v₂) Q := by
  obtain ⟨k1, q⟩ := guard.out p
  obtain ⟨k2, q⟩ := guard.out q
  obtain ⟨as, r1⟩ := unH_reads R₁ hM k1
  obtain ⟨bs, r2⟩ := unH_reads R₂ hM k2
  cases neg with
  | true => exact SeqAt.compareNe_shaped r1 r2 (ok_shaped k1 (by decide)) (ok_shaped k2 (by decide)) (aok_units hA) ⟨_, .bool _, .refl, q, .refl⟩
  | false => exact SeqAt.compareEq_shaped r1 r2 (ok_shaped k1 (by decide)) (ok_shaped k2 (by decide)) (aok_units hA) ⟨_, .bool _, .refl, q, .refl⟩
theorem op_eqs {neg : Bool} : Op2 G b (compareOp (cOp neg)) (tEq neg) := fun A θ X s μ v₁ v₂ d₁ d₂ Q hA hb hl hM R₁ R₂ p => by
  cases d₁ with
  | int x =>
    obtain ⟨y, hy, p⟩ := p.out
    obtain ⟨t, rfl⟩ := R₁
    obtain ⟨u, rfl⟩ := R₂.ofInt hy
    rw [eqI_eq, ← bd] at p
    cases neg with
    | true => exact ne_int ⟨_, .bool _, .refl, p, .refl⟩
    | false => exact eq_int ⟨_, .bool _, .refl, p, .refl⟩
  | bytes x =>
    obtain ⟨y, hy, p⟩ := p.out
    obtain ⟨t, rfl⟩ := R₁
    obtain ⟨u, rfl⟩ := R₂.ofBytes hy
    rw [← bd] at p
    cases neg with
    | true => exact ne_bytes ⟨_, .bool _, .refl, p, .refl⟩
    | false => exact eq_bytes ⟨_, .bool _, .refl, p, .refl⟩
  | tup l =>
    have p : tEqP neg μ (.tup l) d₂ Q (D.pair? (.tup l)) := p
    cases e : D.pair? (.tup l) with
    | none => rw [e] at p; exact op_eqG hA hM R₁ R₂ p
    | some z =>
      rw [e] at p
      obtain ⟨y, hy, rfl, pp⟩ := need.out p
      cases D.ofPair hy
      rw [D.ofPair e] at R₁
      rw [eqI_eq] at pp
      exact eq_pair (Nat.lt_of_le_of_lt (Nat.add_le_add_left (by decide : 1 ≤ 64) _) (aok_units hA)) R₁.pair R₂.pair ⟨_, .bool _, .refl, pp, .refl⟩
  | _ => exact op_eqG hA hM R₁ R₂ p
theorem op_eq : Op2 G b (compareOp .Eq) (tEq false) := op_eqs
theorem op_ne : Op2 G b (compareOp .NotEq) (tEq true) := op_eqs

def cmpN (r : Nat → Nat → Bool) (g : Int → Int → Bool) : Int → Int → Bool
  | .ofNat m, .ofNat n => r m n
  | a, b => g a b
theorem cmpN_eq {r : Nat → Nat → Bool} {g : Int → Int → Bool} (h : ∀ m n : Nat, g (.ofNat m) (.ofNat n) = r m n) : ∀ a b, cmpN r g a b = g a b
  | .ofNat m, .ofNat n => (h m n).symm
  | .negSucc _, _ => rfl
  | .ofNat _, .negSucc _ => rfl
def tCmp (f : Int → Int → Bool) : T2 := fun _ d₁ d₂ Q => need d₁.int? fun a => need d₂.int? fun b => Q (.bool (f a b))
theorem op_cmp {m : Value → Value → Sem Value} {f g : Int → Int → Bool} (e : ∀ a b, f a b = g a b)
    (h : ∀ {A : Around} {s : Shared} {a b : Int} {t u : Tok} {Q : Value → Shared → Prop} {E : Value → Shared → Prop}, Q (.bool (g a b)) s → wpAny G.M A (m (.int a t) (.int b u)) Q E s) :
    Op2 G b m (tCmp f) := fun A θ X s μ v₁ v₂ d₁ d₂ Q hA hb hl hM R₁ R₂ p => by
  exact two_ints R₁ R₂ p (C := fun v₁ v₂ => VOk G A θ X s (m v₁ v₂) Q) fun a b t u p => h ⟨_, .bool _, .refl, e a b ▸ p, rfl⟩
def ltI : Int → Int → Bool := cmpN (fun a b => decide (a < b)) fun a b => decide (a < b)
def leI : Int → Int → Bool := cmpN (fun a b => decide (a ≤ b)) fun a b => decide (a ≤ b)
theorem ltI_eq : ∀ a b, ltI a b = decide (a < b) := cmpN_eq fun _ _ => decide_eq_decide.mpr Int.ofNat_lt
theorem leI_eq : ∀ a b, leI a b = decide (a ≤ b) := cmpN_eq fun _ _ => decide_eq_decide.mpr Int.ofNat_le
theorem op_lt : Op2 G b (compareOp .Lt) (tCmp ltI) := op_cmp ltI_eq fun h => P.lt_int h
theorem op_le : Op2 G b (compareOp .LtE) (tCmp leI) := op_cmp leI_eq fun h => P.le_int h
theorem op_gt : Op2 G b (compareOp .Gt) (tCmp fun a b => ltI b a) := op_cmp (fun a b => ltI_eq b a) fun h => P.gt_int h
theorem op_ge : Op2 G b (compareOp .GtE) (tCmp fun a b => leI b a) := op_cmp (fun a b => leI_eq b a) fun h => P.ge_int h

def D.isNone : D → Option Bool
  | .none => Option.some true
  | .ty _ => Option.none
  | .val _ => Option.none
  | _ => Option.some false
def tIs (neg : Bool) : T2 := fun _ d₁ d₂ Q => need d₁.isNone fun c => guard (d₂.isNone == some true) (Q (.bool (negB neg c)))
theorem plainIs_none {h : Heap} {θ X : List Addr} {v : Value} {d : D} {c : Bool} (R : Rep G h θ X v d) (e : d.isNone = some c) : plainIs v .none = true ∧ (v == .none) = c := by
  cases d with
  | none => cases R; exact ⟨rfl, Option.some.inj e⟩
  | bool => cases R; exact ⟨rfl, Option.some.inj e⟩
  | int => obtain ⟨_, rfl⟩ := R; exact ⟨rfl, Option.some.inj e⟩
  | str => obtain ⟨_, rfl⟩ := R; exact ⟨rfl, Option.some.inj e⟩
  | bytes => obtain ⟨_, rfl⟩ := R; exact ⟨rfl, Option.some.inj e⟩
  | tup => obtain ⟨_⟩ := R; exact ⟨rfl, Option.some.inj e⟩
  | list => obtain ⟨_⟩ := R; exact ⟨rfl, Option.some.inj e⟩
  | inst => obtain ⟨_⟩ := R; exact ⟨rfl, Option.some.inj e⟩
  | hl => obtain ⟨_⟩ := R; exact ⟨rfl, Option.some.inj e⟩
  | hi => obtain ⟨_⟩ := R; exact ⟨rfl, Option.some.inj e⟩
  | ty => exact non e
  | val => exact non e
theorem none_of {h : Heap} {θ X : List Addr} {v : Value} {d : D} (R : Rep G h θ X v d) (e : d.isNone = some true) : v = .none := eq_of_beq (plainIs_none R e).2
theorem op_is : Op2 G b (compareOp .Is) (tIs false) := fun A θ X s μ v₁ v₂ d₁ d₂ Q hA hb hl hM R₁ R₂ p => by
  refine p.elim fun c hc p => ?_
  obtain ⟨e, p⟩ := guard.out p
  obtain ⟨h1, h2⟩ := plainIs_none R₁ hc
  rw [none_of R₂ (eq_of_beq e)]
  exact wpAny_is_plain h1 (by rw [h2]; exact ⟨_, .bool _, .refl, p, .refl⟩)
theorem op_isNot : Op2 G b (compareOp .IsNot) (tIs true) := fun A θ X s μ v₁ v₂ d₁ d₂ Q hA hb hl hM R₁ R₂ p => by
  refine p.elim fun c hc p => ?_
  obtain ⟨e, p⟩ := guard.out p
  obtain ⟨h1, h2⟩ := plainIs_none R₁ hc
  rw [none_of R₂ (eq_of_beq e)]
  exact wpAny_isNot_plain h1 (by rw [h2]; exact ⟨_, .bool _, .refl, p, .refl⟩)

/-- in a tuple or a list of plain data -/
def inB (l : List D) (d : D) : Bool := (pyDs l).any fun y => PyData.eqv y (pyD d)
def D.items? : D → Option (List D)
  | .tup l => some l
  | .list l => some l
  | _ => Option.none
def tIn : T2 := fun _ d₁ d₂ Q => need d₂.items? fun l => guard (okD 32 d₁) (guard (okDs 32 l) (Q (.bool (inB l d₁))))
theorem op_in : Op2 G b (compareOp .In) tIn := fun A θ X s μ v₁ v₂ d₁ d₂ Q hA hb hl hM R₁ R₂ p => by
  refine p.elim fun l hd p => ?_
  obtain ⟨k1, q⟩ := guard.out p
  obtain ⟨k2, q⟩ := guard.out q
  have hu := aok_units hA
  obtain ⟨as, r1⟩ := rep_reads d₁ 32 _ R₁ k1
  have l1 := ok_lay d₁ 32 k1
  have l2 := oks_lay l k2
  have hu' : A.units + 1 + min (PyData.depthAll (pyDs l)) (pyD d₁).depth < cLine := Nat.lt_of_le_of_lt (Nat.add_assoc _ _ _ ▸ Nat.add_le_add_left (Nat.add_le_add (by decide : 1 ≤ 32) (Nat.le_trans (Nat.min_le_left _ _) l2.2)) _) hu
  cases d₂ with
  | tup =>
    cases hd
    obtain ⟨e, n, r⟩ := R₂
    exact (reps_reads l r k2).elim fun bs r2 => SeqAt.in_tuple_reads (.tuple e rfl rfl r2) r1 l2.1 l1.1 hu' ⟨_, .bool _, .refl, q, .refl⟩
  | list =>
    cases hd
    obtain ⟨e, n, r⟩ := R₂
    exact (reps_reads l r k2).elim fun bs r2 => SeqAt.in_list_reads (reads_list_at' e r2) r1 l2.1 l1.1 hu' ⟨_, .bool _, .refl, q, .refl⟩
  | _ => exact non hd
end
end Mine
namespace Mine
open PySem PySem.W PySem.Calls PyProof.Rows

section
variable {G : Gr} {b : Nat} {fs : Fs} {ns : List Str}

/-! ## tests -/
def br (c : Bool) (A B : Prop) : Prop := match c with
  | true => A
  | false => B
abbrev Br (c : Bool) (A B : Prop) : Prop := match c with
  | true => A
  | false => B
def truthI : Int → Bool
  | .ofNat n => !decide (n = 0)
  | .negSucc _ => true
theorem truthI_eq : ∀ i, truthI i = (i != 0)
  | .ofNat 0 => rfl
  | .ofNat (_ + 1) => rfl
  | .negSucc _ => rfl
def truthD : D → Option Bool
  | .bool c => some c
  | .int i => some (truthI i)
  | .none => some false
  | _ => Option.none
theorem truthy_rep {A : Around} {θ X : List Addr} {s : Shared} {v : Value} {d : D} {c : Bool} {Q : Bool → Shared → Prop} {E : Value → Shared → Prop} (R : Rep G s.heap θ X v d) (e : truthD d = some c) (q : Q c s) : wpAny G.M A (truthy v) Q E s := by
  cases d with
  | none => cases R; exact truthy_none (Option.some.inj e ▸ q)
  | bool => cases R; exact wpAny_truthy_bool (Option.some.inj e ▸ q)
  | int i =>
    obtain ⟨_, rfl⟩ := R
    exact P.truthy_int ((truthI_eq i).symm.trans (Option.some.inj e) ▸ q)
  | _ => exact non e
/-- a datum, read as a test -/
def tru (μ : List MO) (Q : Bool → List MO → Prop) (d : D) : Prop := need (truthD d) fun c => Q c μ
def tTrue (P : PE) : PT := fun ρ μ Q Ex => P ρ μ (fun d μ' => tru μ' Q d) Ex
theorem ET_plain {x : Expr} {P : PE} (hx : EV G b fs ns x P) (he : ∀ env whole, isTrue x env whole = (do let v ← whole; standAt x.pos; holding [v] (truthy v))) : ET G b fs ns x (tTrue P) :=
  fun A env θ X s ρ μ Q Ex hA he' S p => isTrue_plain (hx.go hA he' S p (fun v s₁ θ₁ X₁ d₁ μ₁ e₁ S₁ R₁ p₁ r₁ => need.elim p₁ fun c hc h => truthy_rep R₁ hc ⟨θ₁, X₁, μ₁, e₁, S₁, h, r₁⟩) fun _ _ q => q) (he env _)

theorem ET_cmp {x y : Expr} {P R : PE} {T : T2} {op : CmpOp} {pos} (hx : EV G b fs ns x P) (hy : EV G b fs ns y R) (hm : Op2 G b (compareOp op) T) (hb : behindInMarks op y = false) : ET G b fs ns (.Compare x [op] [y] pos) (tTrue (t2 P R T)) :=
  fun A env θ X s ρ μ Q Ex hA he S p => wpAny_isTrue_Compare1 (wpAny_mono (ev2 hx hy hm hA he S p) (fun v₁ s₁ h₁ => wpAny_mono h₁ (fun v₂ s₂ h₂ => wpAny_mono h₂ (fun v₃ s₃ h₃ => by
    obtain ⟨θ', X', d, μ', e, S', R', q, r⟩ := h₃
    exact need.elim q fun c hc h => truthy_rep R' hc ⟨θ', X', μ', e, S', h, r⟩) fun _ _ x => x) fun _ _ x => x) fun _ _ x => x) hb

def tNot (P : PT) : PT := fun ρ μ Q Ex => P ρ μ (fun c μ' => Q (!c) μ') Ex
theorem ET_not {x : Expr} {P : PT} {pos} (hx : ET G b fs ns x P) : ET G b fs ns (.UnaryOp .Not x pos) (tNot P) := fun A env θ X s ρ μ Q Ex hA he S p =>
  isTrue_not (hx.go hA he S p (fun c s' θ' X' μ' e S' q r => ⟨θ', X', μ', e, S', q, r⟩) fun _ _ q => q)

def tAnd (P R : PT) : PT := fun ρ μ Q Ex => P ρ μ (fun c μ' => br c (R ρ μ' Q Ex) (Q false μ')) Ex
def tOr (P R : PT) : PT := fun ρ μ Q Ex => P ρ μ (fun c μ' => br c (Q true μ') (R ρ μ' Q Ex)) Ex
def tB (c : Bool) : PT := fun _ μ Q _ => Q c μ
theorem ET_and0 {pos} : ET G b fs ns (.BoolOp .And [] pos) (tB true) := fun A env θ X s ρ μ Q Ex hA he S p => isTrue_and_nil ⟨θ, X, μ, .refl, S, p, .refl⟩
theorem ET_or0 {pos} : ET G b fs ns (.BoolOp .Or [] pos) (tB false) := fun A env θ X s ρ μ Q Ex hA he S p => isTrue_or_nil ⟨θ, X, μ, .refl, S, p, .refl⟩
theorem ET_and {x : Expr} {rest : List Expr} {P R : PT} {pos} (hx : ET G b fs ns x P) (hr : ET G b fs ns (.BoolOp .And rest pos) R) : ET G b fs ns (.BoolOp .And (x :: rest) pos) (tAnd P R) := fun A env θ X s ρ μ Q Ex hA he S p =>
  isTrue_and (hx.go hA he S p (fun c s₁ θ₁ X₁ μ₁ e₁ S₁ q₁ r₁ => by
    cases c with
    | false => exact ⟨θ₁, X₁, μ₁, e₁, S₁, q₁, r₁⟩
    | true => exact wpAny_mono (hr A env θ₁ X₁ s₁ ρ μ₁ Q Ex hA he S₁ q₁) (fun c s' q => q.rebase e₁ r₁) fun _ _ q => q.rebase e₁ r₁) fun _ _ q => q)
theorem ET_or {x : Expr} {rest : List Expr} {P R : PT} {pos} (hx : ET G b fs ns x P) (hr : ET G b fs ns (.BoolOp .Or rest pos) R) : ET G b fs ns (.BoolOp .Or (x :: rest) pos) (tOr P R) := fun A env θ X s ρ μ Q Ex hA he S p =>
  isTrue_or (hx.go hA he S p (fun c s₁ θ₁ X₁ μ₁ e₁ S₁ q₁ r₁ => by
    cases c with
    | true => exact ⟨θ₁, X₁, μ₁, e₁, S₁, q₁, r₁⟩
    | false => exact wpAny_mono (hr A env θ₁ X₁ s₁ ρ μ₁ Q Ex hA he S₁ q₁) (fun c s' q => q.rebase e₁ r₁) fun _ _ q => q.rebase e₁ r₁) fun _ _ q => q)

/-! a chain of comparisons of ints, in a test: a op₁ b op₂ c .. -/
abbrev PC := D → List (Option D) → List MO → (Bool → List MO → Prop) → (Exn → List MO → Prop) → Prop
def EC (G : Gr) (b : Nat) (fs : Fs) (ns : List Str) (ops : List CmpOp) (es : List Expr) (P : PC) : Prop :=
  ∀ (A : Around) (env : Env) (θ X : List Addr) (s : Shared) (pos : Pos) v d ρ μ Q Ex, AOk A b → fs.ok env → Stt G A env ns θ X s.heap ρ μ → Rep G s.heap θ X v d → P d ρ μ Q Ex →
    wpAny G.M A (testChain pos v ops (evalEach es env)) (PostT G A env ns ρ θ X s Q) (PostX G A env ns ρ θ X s Ex) s
def c1 (R : PE) (T : T2) : PC := fun d ρ μ Q Ex => R ρ μ (fun d₂ μ' => T μ' d d₂ (tru μ' Q)) Ex
def c2 (R : PE) (T : T2) (C : PC) : PC := fun d ρ μ Q Ex => R ρ μ (fun d₂ μ' => T μ' d d₂ (tru μ' fun c μ' => br c (C d₂ ρ μ' Q Ex) (Q false μ'))) Ex
theorem EC_last {y : Expr} {R : PE} {T : T2} {op : CmpOp} (hy : EV G b fs ns y R) (hm : Op2 G b (compareOp op) T) : EC G b fs ns [op] [y] (c1 R T) := fun A env θ X s pos v d ρ μ Q Ex hA he S Rv p => by
  show wpAny _ _ (do let rv ← holding [v] (eval y env); standAt pos; let c ← operate [v, rv] (compareOp op v rv); holding [c] (truthy c)) _ _ _
  refine wpAny_bind (wpAny_holding (hy.go hA he S p (fun v₂ s₂ θ₂ X₂ d₂ μ₂ e₂ S₂ R₂ p₂ r₂ => ?_) fun _ _ q => q))
  refine wpAny_bind (wpAny_standAt (wpAny_bind (wpAny_operate' (wpAny_mono (hm A θ₂ X₂ s₂ μ₂ v v₂ d d₂ _ hA S₂.inv.base S₂.own.lt S₂.muts (Rv.ext S.own e₂) R₂ p₂) (fun c s₃ h₃ => ?_) fun _ _ f => f.elim))))
  obtain ⟨dr, Rr, k, q, r₃⟩ := h₃
  exact wpAny_holding (need.elim q fun c hc h => truthy_rep Rr hc ⟨θ₂, X₂, μ₂, e₂.trans (.stays k), S₂.stays k, h, r₂.trans r₃⟩)
theorem EC_link {y : Expr} {R : PE} {T : T2} {op o' : CmpOp} {ops : List CmpOp} {y' : Expr} {es : List Expr} {C : PC} (hy : EV G b fs ns y R) (hm : Op2 G b (compareOp op) T) (hc : EC G b fs ns (o' :: ops) (y' :: es) C) :
    EC G b fs ns (op :: o' :: ops) (y :: y' :: es) (c2 R T C) := fun A env θ X s pos v d ρ μ Q Ex hA he S Rv p => by
  show wpAny _ _ (do let rv ← holding [v] (eval y env); standAt pos; let c ← holding [v, rv] (compareOp op v rv); release [v, rv] [c]; if ← holding [c, rv] (truthy c) then testChain pos rv (o' :: ops) (evalEach (y' :: es) env) else pure false) _ _ _
  refine wpAny_bind (wpAny_holding (hy.go hA he S p (fun v₂ s₂ θ₂ X₂ d₂ μ₂ e₂ S₂ R₂ p₂ r₂ => ?_) fun _ _ q => q))
  refine wpAny_bind (wpAny_standAt (wpAny_bind (wpAny_holding (wpAny_mono (hm A θ₂ X₂ s₂ μ₂ v v₂ d d₂ _ hA S₂.inv.base S₂.own.lt S₂.muts (Rv.ext S.own e₂) R₂ p₂) (fun c s₃ h₃ => ?_) fun _ _ f => f.elim))))
  obtain ⟨dr, Rr, k, q, r₃⟩ := h₃
  refine wpAny_bind (wpAny_release' (wpAny_bind (wpAny_holding ?_)))
  refine need.elim q fun c hc' q => truthy_rep Rr hc' ?_
  cases c with
  | false => exact wpAny_pure ⟨θ₂, X₂, μ₂, e₂.trans (.stays k), S₂.stays k, q, r₂.trans r₃⟩
  | true => exact wpAny_mono (hc A env θ₂ X₂ s₃ pos v₂ d₂ ρ μ₂ Q Ex hA he (S₂.stays k) (R₂.stays k) q) (fun c s' q => q.rebase (e₂.trans (.stays k)) (r₂.trans r₃)) fun _ _ q => q.rebase (e₂.trans (.stays k)) (r₂.trans r₃)
def tChain (P : PE) (C : PC) : PT := fun ρ μ Q Ex => P ρ μ (fun d μ' => C d ρ μ' Q Ex) Ex
theorem ET_chain {x : Expr} {P : PE} {o₁ o₂ : CmpOp} {ops : List CmpOp} {y₁ y₂ : Expr} {es : List Expr} {C : PC} {pos} (hx : EV G b fs ns x P) (hc : EC G b fs ns (o₁ :: o₂ :: ops) (y₁ :: y₂ :: es) C)
    (hm : lastMarks (o₁ :: o₂ :: ops) (y₁ :: y₂ :: es) = false) : ET G b fs ns (.Compare x (o₁ :: o₂ :: ops) (y₁ :: y₂ :: es) pos) (tChain P C) := fun A env θ X s ρ μ Q Ex hA he S p =>
  isTrue_chain (hx.go hA he S p (fun v s₁ θ₁ X₁ d₁ μ₁ e₁ S₁ R₁ p₁ r₁ => wpAny_mono (hc A env θ₁ X₁ s₁ pos v d₁ ρ μ₁ Q Ex hA he S₁ R₁ p₁) (fun c s' q => q.rebase e₁ r₁) fun _ _ q => q.rebase e₁ r₁) fun _ _ q => q) hm

/-! ## choices in an expression -/
def tIf (T : PT) (P R : PE) : PE := fun ρ μ Q Ex => T ρ μ (fun c μ' => br c (P ρ μ' Q Ex) (R ρ μ' Q Ex)) Ex
theorem EV_if {t x y : Expr} {T : PT} {P R : PE} {pos} (ht : ET G b fs ns t T) (hx : EV G b fs ns x P) (hy : EV G b fs ns y R) : EV G b fs ns (.IfExp t x y pos) (tIf T P R) := fun A env θ X s ρ μ Q Ex hA he S p =>
  IfExp_ (ht.go hA he S p (fun c s₁ θ₁ X₁ μ₁ e₁ S₁ q₁ r₁ => by
    cases c with
    | true => exact wpAny_mono (hx A env θ₁ X₁ s₁ ρ μ₁ Q Ex hA he S₁ q₁) (fun _ _ q => q.rebase e₁ r₁) fun _ _ q => q.rebase e₁ r₁
    | false => exact wpAny_mono (hy A env θ₁ X₁ s₁ ρ μ₁ Q Ex hA he S₁ q₁) (fun _ _ q => q.rebase e₁ r₁) fun _ _ q => q.rebase e₁ r₁) fun _ _ q => q)
def vAnd (P R : PE) : PE := fun ρ μ Q Ex => P ρ μ (fun d μ' => need (truthD d) fun c => br c (R ρ μ' Q Ex) (Q d μ')) Ex
def vOr (P R : PE) : PE := fun ρ μ Q Ex => P ρ μ (fun d μ' => need (truthD d) fun c => br c (Q d μ') (R ρ μ' Q Ex)) Ex
theorem EV_one {x : Expr} {P : PE} {op : BoolOp} {pos} (hx : EV G b fs ns x P) : EV G b fs ns (.BoolOp op [x] pos) P := fun A env θ X s ρ μ Q Ex hA he S p => BoolOp_one (hx A env θ X s ρ μ Q Ex hA he S p)
theorem EV_and {x y : Expr} {rest : List Expr} {P R : PE} {pos} (hx : EV G b fs ns x P) (hr : EV G b fs ns (.BoolOp .And (y :: rest) pos) R) : EV G b fs ns (.BoolOp .And (x :: y :: rest) pos) (vAnd P R) := fun A env θ X s ρ μ Q Ex hA he S p =>
  BoolOp_and (hx.go hA he S p (fun v s₁ θ₁ X₁ d₁ μ₁ e₁ S₁ R₁ q₁ r₁ => by
    refine need.elim q₁ fun c hc q₁ => truthy_rep R₁ hc ?_
    cases c with
    | false => exact ⟨θ₁, X₁, d₁, μ₁, e₁, S₁, R₁, q₁, r₁⟩
    | true => exact wpAny_mono (hr A env θ₁ X₁ s₁ ρ μ₁ Q Ex hA he S₁ q₁) (fun _ _ q => q.rebase e₁ r₁) fun _ _ q => q.rebase e₁ r₁) fun _ _ q => q)
theorem EV_or {x y : Expr} {rest : List Expr} {P R : PE} {pos} (hx : EV G b fs ns x P) (hr : EV G b fs ns (.BoolOp .Or (y :: rest) pos) R) : EV G b fs ns (.BoolOp .Or (x :: y :: rest) pos) (vOr P R) := fun A env θ X s ρ μ Q Ex hA he S p =>
  BoolOp_or (hx.go hA he S p (fun v s₁ θ₁ X₁ d₁ μ₁ e₁ S₁ R₁ q₁ r₁ => by
    refine need.elim q₁ fun c hc q₁ => truthy_rep R₁ hc ?_
    cases c with
    | true => exact ⟨θ₁, X₁, d₁, μ₁, e₁, S₁, R₁, q₁, r₁⟩
    | false => exact wpAny_mono (hr A env θ₁ X₁ s₁ ρ μ₁ Q Ex hA he S₁ q₁) (fun _ _ q => q.rebase e₁ r₁) fun _ _ q => q.rebase e₁ r₁) fun _ _ q => q)

/-! ## operands in a row -/
abbrev PL := List (Option D) → List MO → (List D → List MO → Prop) → (Exn → List MO → Prop) → Prop
inductive PostL (G : Gr) (A : Around) (env : Env) (ns : List Str) (ρ : List (Option D)) (θ X : List Addr) (s : Shared) (Q : List D → List MO → Prop) (vs : List Value) (s' : Shared) : Prop
  | mk (θ' X' ds μ') : Ext G A θ X s.heap θ' X' s'.heap → Stt G A env ns θ' X' s'.heap ρ μ' → Reps G s'.heap θ' X' vs ds → Q ds μ' → Rest s s' → PostL G A env ns ρ θ X s Q vs s'
def plainArgs (env : Env) : List Expr → List (Bool × Sem Value)
  | [] => []
  | e :: r => (false, eval e env) :: plainArgs env r
def EL (G : Gr) (b : Nat) (fs : Fs) (ns : List Str) (es : List Expr) (P : PL) : Prop :=
  ∀ (A : Around) (env : Env) (θ X : List Addr) (s : Shared) ρ μ Q Ex, AOk A b → fs.ok env → Stt G A env ns θ X s.heap ρ μ → P ρ μ Q Ex →
    wpAny G.M A (spliced (plainArgs env es)) (PostL G A env ns ρ θ X s Q) (PostX G A env ns ρ θ X s Ex) s
def l0 : PL := fun _ μ Q _ => Q [] μ
def l1 (P : PE) (R : PL) : PL := fun ρ μ Q Ex => P ρ μ (fun d μ' => R ρ μ' (fun ds μ'' => Q (d :: ds) μ'') Ex) Ex
theorem EL_nil : EL G b fs ns [] l0 := fun A env θ X s ρ μ Q Ex hA he S p => spliced_nil ⟨θ, X, [], μ, .refl, S, .nil, p, .refl⟩
theorem EL_cons {x : Expr} {es : List Expr} {P : PE} {R : PL} (hx : EV G b fs ns x P) (hr : EL G b fs ns es R) : EL G b fs ns (x :: es) (l1 P R) := fun A env θ X s ρ μ Q Ex hA he S p =>
  spliced_cons (hx.go hA he S p (fun v s₁ θ₁ X₁ d₁ μ₁ e₁ S₁ R₁ q₁ r₁ => wpAny_mono (hr A env θ₁ X₁ s₁ ρ μ₁ _ Ex hA he S₁ q₁) (fun vs s₂ h => by
    obtain ⟨θ₂, X₂, ds, μ₂, e₂, S₂, R₂, q₂, r₂⟩ := h
    exact ⟨θ₂, X₂, d₁ :: ds, μ₂, e₁.trans e₂, S₂, .cons (R₁.ext S₁.own e₂) R₂, q₂, r₁.trans r₂⟩) fun _ _ q => q.rebase e₁ r₁) fun _ _ q => q)
def noStar : List Expr → Bool
  | [] => true
  | .Starred _ _ :: _ => false
  | _ :: r => noStar r
theorem backTo_plain (pos : Pos) (env : Env) : ∀ es : List Expr, noStar es = true → backTo pos (starEach es env) = plainArgs env es
  | [], _ => rfl
  | e :: r, h => by
    cases e with
    | Starred => exact nomatch h
    | _ => exact congrArg ((false, _) :: ·) (backTo_plain pos env r h)
theorem plainArgs_any (env : Env) : ∀ es : List Expr, (plainArgs env es).any (·.1) = false
  | [] => rfl
  | _ :: r => plainArgs_any env r

def tTup (P : PL) : PE := fun ρ μ Q Ex => P ρ μ (fun ds μ' => guard (Nat.ble ds.length 1000) (Q (.tup ds) μ')) Ex
def tList (P : PL) : PE := fun ρ μ Q Ex => P ρ μ (fun ds μ' => guard (Nat.ble ds.length 1000) (Q (.list ds) μ')) Ex
theorem own_lt {A : Around} {h : Heap} {θ X : List Addr} (O : Own G A h θ X) : h.objs.size ∉ X := fun q => Nat.lt_irrefl _ (O.lt _ q)
theorem EV_tup {es : List Expr} {P : PL} {k pos} (hl : EL G b fs ns es P) (hn : noStar es = true) : EV G b fs ns (.Tuple es k pos) (tTup P) := fun A env θ X s ρ μ Q Ex hA he S p => by
  refine Tuple_ ?_
  rw [backTo_plain _ _ _ hn]
  refine wpAny_mono (hl A env θ X s ρ μ _ Ex hA he S p) (fun vs s₁ h => ?_) fun _ _ q => q
  obtain ⟨θ₁, X₁, ds, μ₁, e₁, S₁, R₁, q₁, r₁⟩ := h
  obtain ⟨z, q₁⟩ := guard.le q₁
  have k : Kp [] [] s₁.heap (s₁.heap.push { cls := .type "tuple", data := .seq vs.toArray }) := .push _
  exact wpAny_newObj_type ⟨θ₁, X₁, .tup ds, μ₁, e₁.trans (.stays k), S₁.stays k, .tup (Heap.get?_push_size _ rfl) (own_lt S₁.own) (R₁.stays k), q₁, r₁.trans rfl⟩ (by show vs.toArray.size ≤ sizeLine; rw [List.size_toArray, R₁.length, sizeLine_eq]; omega)
theorem EV_list {es : List Expr} {P : PL} {pos} (hl : EL G b fs ns es P) (hn : noStar es = true) : EV G b fs ns (.List es pos) (tList P) := fun A env θ X s ρ μ Q Ex hA he S p => by
  refine List_ ?_
  rw [backTo_plain _ _ _ hn]
  refine wpAny_mono (hl A env θ X s ρ μ _ Ex hA he S p) (fun vs s₁ h => ?_) fun _ _ q => q
  obtain ⟨θ₁, X₁, ds, μ₁, e₁, S₁, R₁, q₁, r₁⟩ := h
  obtain ⟨z, q₁⟩ := guard.le q₁
  have k : Kp [] [] s₁.heap (s₁.heap.push { cls := .type "list", data := .seq vs.toArray }) := .push _
  exact wpAny_newObj_type ⟨θ₁, X₁, .list ds, μ₁, e₁.trans (.stays k), S₁.stays k, .list (Heap.get?_push_size _ rfl) (own_lt S₁.own) (R₁.stays k), q₁, r₁.trans rfl⟩ (by show vs.toArray.size ≤ sizeLine; rw [List.size_toArray, R₁.length, sizeLine_eq]; omega)
end
end Mine
namespace Mine
open PySem PySem.W PySem.Calls PyProof.Rows

section
variable {G : Gr} {b : Nat} {fs : Fs} {ns : List Str} {A : Around} {env : Env} {θ X : List Addr} {h h' : Heap} {ρ : List (Option D)} {μ : List MO}

/-! ## a new thing that may be changed -/
theorem base_none (I : Inv G A X h) {a : Addr} (ha : h.objs.size ≤ a) : G.h₀.get? a = none := by
  cases e : G.h₀.get? a with
  | none => rfl
  | some o => exact absurd ha (not_le_of_get (I.base a o e))
theorem Inv.addX (I : Inv G A X h) {a : Addr} (ha : h.objs.size ≤ a) : Inv G A (a :: X) h := ⟨I.base, fun q hq => (I.tabs q hq).mono (fun _ e => e) fun c s h2 h3 => ⟨h2, fun z => (List.mem_cons.mp z).elim (fun z => absurd (codeRec_lt h2) (Nat.not_lt.mpr (z ▸ ha))) h3⟩, I.fs, I.frames⟩
/-! ## items -/
def idxL (l : List D) (k : Int) (Q : D → Prop) : Prop := guard (Nat.ble l.length 1000000000) (match k with
  | .ofNat n => need l[n]? Q
  | .negSucc m => guard (Nat.ble (m + 1) l.length) (need l[l.length - 1 - m]? Q))
def tItem : T2 := fun μ d i Q => need i.int? fun k => match d with
  | .bytes l => (match k with
    | .ofNat n => n < l.length ∧ l.length ≤ 16777216 ∧ Q (.int (l.getD n 0).toNat)
    | _ => False)
  | .tup l => idxL l k Q
  | d => need (viewL μ d) fun l => idxL l k Q
/-- a place of a row, as an index tells it -/
inductive Idx (n : Nat) (k : Int) (j : Nat) : Prop
  | pos : k = (j : Int) → Idx n k j
  | neg : k < 0 → -(n : Int) ≤ k → j = (k + n).toNat → Idx n k j
theorem idxL.elim {l : List D} {Q : D → Prop} {p : Prop} : ∀ {k : Int}, idxL l k Q → (∀ j x, j < l.length → l.length ≤ 1000000000 → l[j]? = some x → Q x → Idx l.length k j → p) → p
  | .ofNat n, h, f => h.le.2.elim fun x hx q => f n x (List.getElem?_eq_some_iff.mp hx).1 h.le.1 hx q (.pos rfl)
  | .negSucc m, h, f => by
    obtain ⟨h0, h⟩ := h.le
    obtain ⟨h1, h⟩ := guard.le h
    exact h.elim fun x hx q => f _ x (List.getElem?_eq_some_iff.mp hx).1 h0 hx q (.neg (Int.negSucc_lt_zero m) (by omega) (by omega))
theorem Idx.seq {n : Nat} {k : Int} {j : Nat} (h : Idx n k j) (hj : j < n) : seqIndex? k n = some j := by
  unfold seqIndex?
  rcases h with rfl | ⟨h, h', rfl⟩
  · rw [if_neg (Int.not_lt.mpr (Int.natCast_nonneg j))]
    show (if (decide ((0 : Int) ≤ j) && decide ((j : Int) < n)) = true then some (j : Int).toNat else none) = _
    rw [decide_eq_true (Int.natCast_nonneg j), decide_eq_true (Int.ofNat_lt.mpr hj)]; rfl
  · rw [if_pos h]
    show (if (decide (0 ≤ k + n) && decide (k + n < n)) = true then some (k + n).toNat else none) = _
    rw [decide_eq_true (by omega), decide_eq_true (by omega)]; rfl
theorem op_item {value slice : Expr} (hs : ∀ o i, subscripted slice false o i = operate [o, i] (getItem o i)) : Op2 G b (subscriptTail value slice) tItem := fun A θ X s μ v₁ v₂ d₁ d₂ Q hA hb hl hM R₁ R₂ p => by
  refine p.elim fun k hk p => ?_
  obtain ⟨u, rfl⟩ := R₂.ofInt hk
  have lst : ∀ d, Rep G s.heap θ X v₁ d → need (viewL μ d) (fun l => idxL l k Q) → VOk G A θ X s (subscriptTail value slice v₁ (.int k u)) Q := fun d R₁ p => p.elim fun l hv p => idxL.elim p fun j x hj h0 hx q ij => by
    obtain ⟨e, r⟩ := viewL_rep R₁ hM hv
    obtain ⟨v, hv, Rv⟩ := r.get hx
    have hL : s.heap.IsList _ _ := ⟨_, e, rfl, _, rfl⟩
    rcases ij with rfl | ⟨hn, h1, rfl⟩
    · exact tail_any hL.typeIs slot_list_getitem.lookup (wpAny_getItem_list hL (Int.natCast_nonneg j) (by omega) ((List.getElem?_toArray ..).trans hv) ⟨_, Rv, .refl, q, .refl⟩) (hs _ _)
    · exact tail_any hL.typeIs slot_list_getitem.lookup (wpAny_getItem_list_neg hL hn (by rw [List.size_toArray, r.length]; exact h1) (by omega) (by rw [List.size_toArray, r.length, List.getElem?_toArray]; exact hv) ⟨_, Rv, .refl, q, .refl⟩) (hs _ _)
  cases d₁ with
  | bytes l =>
    obtain ⟨t, rfl⟩ := R₁
    cases k with
    | ofNat n => exact tail_any (typeIs_bytes _ _ _) FB.slot_bytes_getitem.lookup (getItem_bytes (Nat.le_trans p.2.1 (by decide)) (Int.natCast_nonneg n) (Int.ofNat_lt.mpr p.1) ⟨_, .int _ _, .refl, p.2.2, rfl⟩) (hs _ _)
    | negSucc => exact p.elim
  | tup l =>
    obtain ⟨e, n, r⟩ := R₁
    refine idxL.elim p fun j x hj h0 hx q ij => ?_
    obtain ⟨v, hv, Rv⟩ := r.get hx
    have hk : -(2 ^ 63) ≤ k ∧ k < 2 ^ 63 := by rcases ij with rfl | ⟨_, h1, _⟩ <;> omega
    exact item_tupleT ⟨_, e, rfl, _, rfl⟩ hk.1 hk.2 (r.length ▸ ij.seq hj) hv ⟨_, Rv, .refl, q, .refl⟩ (hs _ _)
  | _ => exact lst _ R₁ p
theorem EV_item {x y : Expr} {P R : PE} {pos} (hx : EV G b fs ns x P) (hy : EV G b fs ns y R) (hs : ∀ o i, subscripted y false o i = operate [o, i] (getItem o i)) : EV G b fs ns (.Subscript x y pos) (t2 P R tItem) :=
  fun A env θ X s ρ μ Q Ex hA he S p => Subscript_ (ev2 hx hy (op_item hs) hA he S p)
theorem EV_neg {x : Expr} {k : Int} {pos} (hx : EV G b fs ns x (tD (.int k))) : EV G b fs ns (.UnaryOp .USub x pos) (tD (.int (-k))) := fun A env θ X s ρ μ Q Ex hA he S p =>
  wpAny_UnaryOp (hx.go (Q := fun d μ' => d = .int k ∧ Q (.int (-k)) μ') (Ex := Ex) hA he S ⟨rfl, p⟩ (fun v s₁ θ₁ X₁ d₁ μ₁ e₁ S₁ R₁ q₁ r₁ => by
    obtain ⟨rfl, q₁⟩ := q₁
    obtain ⟨_, rfl⟩ := R₁
    exact P.neg_int ⟨θ₁, X₁, _, μ₁, e₁, S₁, .int _ _, q₁, r₁.trans rfl⟩) fun _ _ q => q)

/-! ## cuts -/
def cutL {α : Type} (l : List α) (lo hi : Option Int) : List α := (l.drop (lo.elim 0 (clipAt l.length))).take (hi.elim l.length (clipAt l.length) - lo.elim 0 (clipAt l.length))
def loX (n : Nat) : Option Int → Nat
  | none => 0
  | some (.ofNat a) => a
  | some (.negSucc k) => n - (k + 1)
/-- the same, as it computes -/
def cutX {α : Type} (l : List α) (lo hi : Option Int) : List α := match hi with
  | none => l.drop (loX l.length lo)
  | some (.ofNat b) => (l.drop (loX l.length lo)).take (b - loX l.length lo)
  | some (.negSucc k) => (l.drop (loX l.length lo)).take (l.length - (k + 1) - loX l.length lo)
theorem clip_nat {n a : Nat} : clipAt n (.ofNat a) = min a n := by
  unfold clipAt
  rw [if_neg (show ¬ Int.ofNat a < 0 from Int.not_lt.mpr (Int.natCast_nonneg a))]
  show (max 0 (min (a : Int) n)).toNat = _
  omega
theorem clip_neg {n k : Nat} : clipAt n (.negSucc k) = n - (k + 1) := by
  unfold clipAt
  rw [if_pos (Int.negSucc_lt_zero k)]
  rw [Int.negSucc_eq]
  omega
theorem drop_min {α : Type} (l : List α) (a : Nat) : l.drop (min a l.length) = l.drop a := by
  rcases Nat.le_total a l.length with h | h
  · rw [Nat.min_eq_left h]
  · rw [Nat.min_eq_right h, List.drop_length, List.drop_eq_nil_of_le h]
theorem min_cut {a b n : Nat} : min b n - min a n = min (b - a) (n - a) := by
  rcases Nat.le_total a n with h | h
  · rw [Nat.min_eq_left h]; exact (Nat.sub_min_sub_right ..).symm
  · rw [Nat.min_eq_right h, Nat.sub_eq_zero_of_le (Nat.min_le_right _ _), Nat.sub_eq_zero_of_le h, Nat.min_zero]
theorem cutX_eq {α : Type} (l : List α) (lo hi : Option Int) : cutL l lo hi = cutX l lo hi := by
  have h1 : l.drop (lo.elim 0 (clipAt l.length)) = l.drop (loX l.length lo) ∧ ∀ b, min b l.length - lo.elim 0 (clipAt l.length) = min (b - loX l.length lo) (l.length - loX l.length lo) := by
    match lo with
    | none => exact ⟨rfl, fun b => rfl⟩
    | some (.ofNat a) => exact ⟨by show l.drop (clipAt _ _) = _; rw [clip_nat, drop_min]; rfl, fun b => by show _ - clipAt _ _ = min (b - a) (l.length - a); rw [clip_nat]; exact min_cut⟩
    | some (.negSucc k) => exact ⟨by show l.drop (clipAt _ _) = _; rw [clip_neg]; rfl, fun b => by show _ - clipAt _ _ = min (b - (l.length - (k + 1))) (l.length - (l.length - (k + 1))); rw [clip_neg]; exact (Nat.sub_min_sub_right ..).symm⟩
  have tk : ∀ (r : List α) (n : Nat), r.take (min n r.length) = r.take n := fun r n => by
    rcases Nat.le_total n r.length with h | h
    · rw [Nat.min_eq_left h]
    · rw [Nat.min_eq_right h, List.take_length, List.take_of_length_le h]
  have key : ∀ b, (l.drop (lo.elim 0 (clipAt l.length))).take (min b l.length - lo.elim 0 (clipAt l.length)) = (l.drop (loX l.length lo)).take (b - loX l.length lo) := fun b => by
    rw [h1.1, h1.2, ← List.length_drop, tk]
  match hi with
  | none =>
    have := key l.length
    rw [Nat.min_self] at this
    exact this.trans (List.take_of_length_le (Nat.le_of_eq List.length_drop))
  | some (.ofNat b) => exact (congrArg (fun n => (l.drop (lo.elim 0 (clipAt l.length))).take (n - lo.elim 0 (clipAt l.length))) clip_nat).trans (key b)
  | some (.negSucc k) =>
    have := key (l.length - (k + 1))
    rw [Nat.min_eq_left (Nat.sub_le _ _)] at this
    exact (congrArg (fun n => (l.drop (lo.elim 0 (clipAt l.length))).take (n - lo.elim 0 (clipAt l.length))) clip_neg).trans this
def partD : D → Option (Option Int)
  | .none => some Option.none
  | .int i => some (some i)
  | _ => Option.none
theorem part_rep {v : Value} {d : D} {p : Option Int} (R : Rep G h θ X v d) (e : partD d = some p) : IsPart v p := by
  cases d with
  | none => cases R; cases e; exact .none
  | int => obtain ⟨_, rfl⟩ := R; cases e; exact .int _ _
  | _ => exact non e
def cutD (μ : List MO) (d : D) (lo hi : Option Int) (Q : D → Prop) : Prop := match d with
  | .bytes l => guard (Nat.ble l.length 16777216) (Q (.bytes (cutX l lo hi)))
  | d => need (viewL μ d) fun l => guard (Nat.ble l.length 16777216) (Q (.list (cutX l lo hi)))
def tCut (P L U : PE) : PE := fun ρ μ Q Ex => P ρ μ (fun d μ₁ => L ρ μ₁ (fun dl μ₂ => U ρ μ₂ (fun du μ₃ => need (partD dl) fun lo => need (partD du) fun hi => cutD μ₃ d lo hi fun d => Q d μ₃) Ex) Ex) Ex
def EO (G : Gr) (b : Nat) (fs : Fs) (ns : List Str) (x : Option Expr) (P : PE) : Prop :=
  ∀ (A : Around) (env : Env) (θ X : List Addr) (s : Shared) ρ μ Q Ex, AOk A b → fs.ok env → Stt G A env ns θ X s.heap ρ μ → P ρ μ Q Ex →
    wpAny G.M A (evalPart x env) (Post G A env ns ρ θ X s Q) (PostX G A env ns ρ θ X s Ex) s
theorem EO_none : EO G b fs ns none (tD .none) := fun A env θ X s ρ μ Q Ex hA he S p => by
  rw [evalPart_none]; exact wpAny_pure ⟨θ, X, .none, μ, .refl, S, .none, p, .refl⟩
theorem EO_some {x : Expr} {P : PE} (hx : EV G b fs ns x P) : EO G b fs ns (some x) P := fun A env θ X s ρ μ Q Ex hA he S p => by
  rw [evalPart_some]; exact hx A env θ X s ρ μ Q Ex hA he S p
theorem Reps.drop : ∀ {ds : List D} {vs : List Value} (k : Nat), Reps G h θ X vs ds → Reps G h θ X (vs.drop k) (ds.drop k)
  | _, _, 0, r => r
  | [], _, _ + 1, e => by cases e; exact Reps.nil
  | _ :: _, _, k + 1, .mk _ r => Reps.drop k r
theorem Reps.take : ∀ {ds : List D} {vs : List Value} (k : Nat), Reps G h θ X vs ds → Reps G h θ X (vs.take k) (ds.take k)
  | _, _, 0, _ => Reps.nil
  | [], _, _ + 1, e => by cases e; exact Reps.nil
  | _ :: _, _, k + 1, .mk a r => .mk a (Reps.take k r)
/-- a cut as an operation on what stands -/
theorem cut_ok {s : Shared} {value : Expr} {lo hi : Option Expr} {p : Pos} {v vl vu : Value} {d : D} {lo' hi' : Option Int} {Q : D → Prop} (hM : Muts G s.heap θ X μ) (hl : ∀ a ∈ X, a < s.heap.objs.size) (R : Rep G s.heap θ X v d) (pl : IsPart vl lo') (pu : IsPart vu hi') (q : cutD μ d lo' hi' Q) :
    wpAny G.M A (subscriptTail value (.Slice lo hi none p) v (.ref s.heap.objs.size)) (VPost G θ X s Q) (fun _ _ => False) { s with heap := s.heap.push { cls := .type "slice", data := .fields #[vl, vu, .none] } } := by
  have k : Kp [] [] s.heap (s.heap.push { cls := .type "slice", data := .fields #[vl, vu, .none] }) := .push _
  have lst : ∀ d, Rep G s.heap θ X v d → need (viewL μ d) (fun l => guard (Nat.ble l.length 16777216) (Q (.list (cutX l lo' hi')))) → wpAny G.M A (subscriptTail value (.Slice lo hi none p) v (.ref s.heap.objs.size)) (VPost G θ X s Q) (fun _ _ => False) { s with heap := s.heap.push { cls := .type "slice", data := .fields #[vl, vu, .none] } } := fun d R q => q.elim fun l hv q => by
    have q := guard.le q
    rw [← cutX_eq] at q
    obtain @⟨a, vs, n, e, r⟩ := viewL_rep R hM hv
    have hL : (s.heap.push { cls := .type "slice", data := .fields #[vl, vu, .none] }).IsList _ _ := ⟨_, Heap.get?_push_of_some _ e, rfl, _, rfl⟩
    refine tail_any (s := { s with heap := s.heap.push { cls := .type "slice", data := .fields #[vl, vu, .none] } }) hL.typeIs slot_list_getitem.lookup (wpAny_getItem_list_slice hL (Heap.IsSliceOf.new _ _ _ _) pl pu .none (fun q => nomatch q) ?_ (by rw [List.size_toArray, r.length, sizeLine_eq]; exact q.1)) rfl
    rw [slicePick_plain]
    have k2 := k.trans (Kp.push (W := []) (F := []) { cls := .type "list", data := .seq (cutL vs lo' hi').toArray })
    refine ⟨_, .list (vs := cutL vs lo' hi') (n := 0) (Heap.get?_push_size _ rfl) (fun q => absurd (hl _ q) (Nat.not_lt.mpr k.1)) ?_, k2, q.2, rfl⟩
    unfold cutL
    rw [r.length]
    exact Reps.take _ (Reps.drop _ (r.kp k2 (fun _ q => nomatch q) (fun _ q => nomatch q) (fun _ _ e => e) fun _ q => .inl q))
  cases d with
  | bytes l =>
    obtain ⟨t, rfl⟩ := R
    have q := guard.le q
    rw [← cutX_eq] at q
    refine tail_any (typeIs_bytes _ _ _) FB.slot_bytes_getitem.lookup (getItem_meets (typeIs_bytes _ _ _) (by decide) FB.slot_bytes_getitem FB.entry_bytes_getitem (FB.args_bytes_getitem_2 _ _) (KBc.meets_slice2 l.toArray _ _ pl pu)
      ⟨Heap.IsSliceOf.new _ _ _ _, Nat.le_trans (KBc.size_picked_le l.toArray lo' hi') (sizeLine_eq ▸ q.1), fun t' k' => ?_⟩) rfl
    rw [KBc.picked_eq]
    exact ⟨_, .bytes (cutL l lo' hi') _, k, q.2, rfl⟩
  | _ => exact lst _ R q
theorem EV_cut {x : Expr} {lo hi : Option Expr} {P L U : PE} {p pos} (hx : EV G b fs ns x P) (hlo : EO G b fs ns lo L) (hhi : EO G b fs ns hi U) : EV G b fs ns (.Subscript x (.Slice lo hi none p) pos) (tCut P L U) :=
  fun A env θ X s ρ μ Q Ex hA he S pp => by
    refine Subscript_ (hx.go hA he S pp (fun v s₁ θ₁ X₁ d μ₁ e₁ S₁ R₁ q₁ r₁ => wpAny_Slice ?_) fun _ _ q => q)
    refine wpAny_mono (hlo A env θ₁ X₁ s₁ ρ μ₁ _ Ex hA he S₁ q₁) (fun vl s₂ h₂ => ?_) fun _ _ q => q.rebase e₁ r₁
    obtain ⟨θ₂, X₂, dl, μ₂, e₂, S₂, R₂, q₂, r₂⟩ := h₂
    refine wpAny_mono (hhi A env θ₂ X₂ s₂ ρ μ₂ _ Ex hA he S₂ q₂) (fun vu s₃ h₃ => ?_) fun _ _ q => q.rebase (e₁.trans e₂) (r₁.trans r₂)
    obtain ⟨θ₃, X₃, du, μ₃, e₃, S₃, R₃, q₃, r₃⟩ := h₃
    rw [evalPart_none]
    refine need.elim q₃ fun lo' hl' q₃ => need.elim q₃ fun hi' hu' q₃ => wpAny_pure ?_
    exact wpAny_mono (cut_ok S₃.muts S₃.own.lt ((R₁.ext S₁.own e₂).ext S₂.own e₃) (part_rep (R₂.ext S₂.own e₃) hl') (part_rep R₃ hu') q₃) (fun v s' ⟨d, R, k, q, r⟩ => ⟨θ₃, X₃, d, μ₃, ((e₁.trans e₂).trans e₃).trans (.stays k), S₃.stays k, R, q, ((r₁.trans r₂).trans r₃).trans r⟩) fun _ _ f => f.elim
end
end Mine
namespace Mine
open PySem PySem.W PySem.Calls PyProof.Rows

section
variable {G : Gr} {b : Nat} {fs : Fs} {ns : List Str} {A : Around} {env : Env} {θ X : List Addr} {h h' : Heap} {ρ : List (Option D)} {μ : List MO} {s s' : Shared}

/-! ## calls -/
abbrev PF := List D → List MO → (D → List MO → Prop) → (Exn → List MO → Prop) → Prop
/-- more addresses to be spared, all of them new -/
structure Grow (G : Gr) (h : Heap) (X : List Addr) (h' : Heap) (X' : List Addr) : Prop where
  sup : ∀ b ∈ X, b ∈ X'
  sub : ∀ b ∈ X', b ∈ X ∨ h.objs.size ≤ b
  lt : ∀ b ∈ X', b < h'.objs.size
  new : ∀ b ∈ X', G.h₀.get? b = none
theorem Grow.same (O : Own G A h θ X) (l : h.objs.size ≤ h'.objs.size) : Grow G h X h' X := ⟨fun _ q => q, fun _ q => .inl q, fun b q => Nat.lt_of_lt_of_le (O.lt b q) l, O.new⟩
inductive PostCr (G : Gr) (A : Around) (θ X : List Addr) (s : Shared) (Q : D → List MO → Prop) (v : Value) (s' : Shared) : Prop
  | mk (d μ') : Kp (θ ++ G.tA) (FL A) s.heap s'.heap → Inv G A X s'.heap → Muts G s'.heap θ X μ' → Rep G s'.heap [] X v d → Q d μ' → Rest s s' → PostCr G A θ X s Q v s'
inductive PostCx (G : Gr) (A : Around) (θ X : List Addr) (s : Shared) (Ex : Exn → List MO → Prop) (n : Option Nat) (v : Value) (s' : Shared) : Prop
  | mk (e c μ' X') : v = .ref e → Kp (θ ++ G.tA) (FL A) s.heap s'.heap → Inv G A X' s'.heap → Grow G s.heap X s'.heap X' → Muts G s'.heap θ X' (match n with | some n => μ'.take n | none => μ') → ExcAt G s.heap θ X' s'.heap e c → Ex c μ' → Rest s s' → PostCx G A θ X s Ex n v s'
def PostC (G : Gr) (A : Around) (θ X : List Addr) (s : Shared) (Q : D → List MO → Prop) (Ex : Exn → List MO → Prop) (r : Result) (s' : Shared) : Prop := match r with
  | .ok (.ret v) => PostCr G A θ X s Q v s'
  | .ok _ => False
  | .error v => PostCx G A θ X s Ex none v s'
def FV (G : Gr) (b : Nat) (fa : Addr) (S : PF) : Prop :=
  ∀ (A : Around) (θ X : List Addr) (s : Shared) vals ds μ Q Ex, AOk A b → Inv G A X s.heap → Own G A s.heap θ X → Muts G s.heap θ X μ → Reps G s.heap θ X vals ds → S ds μ Q Ex →
    codeAny G.M A (.call (.ref fa) ⟨vals, []⟩) (PostC G A θ X s Q Ex) s
theorem FV.imp {fa : Addr} {S S' : PF} (H : FV G b fa S) (k : ∀ ds μ Q Ex, S' ds μ Q Ex → S ds μ Q Ex) : FV G b fa S' := fun A θ X s vals ds μ Q Ex hA I O M R p => H A θ X s vals ds μ Q Ex hA I O M R (k _ _ _ _ p)
theorem aok_le {x y m b b' n : Nat} (h : x + m * b + y ≤ n) (l : b' ≤ b) : x + m * b' + y ≤ n := Nat.le_trans (Nat.add_le_add_right (Nat.add_le_add_left (Nat.mul_le_mul_left m l) x) y) h
theorem AOk.le {b' : Nat} (h : AOk A b) (l : b' ≤ b) : AOk A b' := ⟨h.1, aok_le h.2.1 l, aok_le h.2.2 l⟩
theorem FV.le {fa : Addr} {S : PF} {b' : Nat} (H : FV G b' fa S) (l : b' ≤ b) : FV G b fa S := fun A θ X s vals ds μ Q Ex hA => H A θ X s vals ds μ Q Ex (hA.le l)
theorem EV.le {x : Expr} {P : PE} {b' : Nat} (H : EV G b' fs ns x P) (l : b' ≤ b) : EV G b fs ns x P := fun A env θ X s ρ μ Q Ex hA => H A env θ X s ρ μ Q Ex (hA.le l)

def one {α : Type} (K : α → MO → Prop) : α → List MO → Prop := fun d μ' => match μ' with
  | [m] => K d m
  | _ => False
def callH (S : PF) (d₀ : D) (k : Nat) (r : List D) (μ : List MO) (Q : D → List MO → Prop) (Ex : Exn → List MO → Prop) : Prop :=
  need μ[k]? fun mo => guard (clDs r) (S (d₀ :: r) [mo] (one fun d m => Q d (μ.set k m)) (one fun e m => Ex e (μ.set k m)))
def call0 (S : PF) (ds : List D) (μ : List MO) (Q : D → List MO → Prop) (Ex : Exn → List MO → Prop) : Prop := guard (clDs ds) (S ds [] (fun d _ => Q d μ) (fun e _ => Ex e μ))
def callT (S : PF) (ds : List D) (μ : List MO) (Q : D → List MO → Prop) (Ex : Exn → List MO → Prop) : Prop := match ds with
  | [] => call0 S [] μ Q Ex
  | d :: r => (match d with
    | .hl k => callH S (.hl 0) k r μ Q Ex
    | .hi k c => callH S (.hi 0 c) k r μ Q Ex
    | d => call0 S (d :: r) μ Q Ex)

/-- a called def writes at some of the handles: the caller's state behind it -/
theorem Stt.call {θ₁ X' : List Addr} {μ' : List MO} (S : Stt G A env ns θ X h ρ μ) (hsub : ∀ a ∈ θ₁, a ∈ θ) (k : Kp (θ₁ ++ G.tA) (FL A) h h') (I : Inv G A X' h') (gr : Grow G h X h' X') (hlen : θ.length = μ'.length)
    (hm : ∀ (i : Nat) a mo, θ[i]? = some a → μ'[i]? = some mo → (a ∈ θ₁ → MRep G h' X' a mo) ∧ (a ∉ θ₁ → μ[i]? = some mo)) : Stt G A env ns θ X' h' ρ μ' := by
  have hW : ∀ a ∈ θ₁ ++ G.tA, a ∈ X := fun a ha => S.own.inX a ((List.mem_append.mp ha).imp (hsub a) .inl)
  have hE : ∀ a ∈ envA env, a ∉ θ₁ ++ G.tA := fun a ha q => (List.mem_append.mp q).elim (fun z => (S.eo.off a ha).1 (hsub a z)) (S.eo.off a ha).2
  have E := S.eo.kp k hE
  refine ⟨I, ⟨fun a ha => gr.sup a (S.own.inX a ha), gr.lt, S.own.nd, S.own.fl, gr.new⟩, ⟨hlen, fun i a mo e1 e2 => ?_⟩, ⟨E.kind, E.glob, E.ns, E.cells, fun a ha => gr.sup a (E.inX a ha), E.off, E.nd, E.nfl⟩, fun i d e => ?_⟩
  · obtain ⟨h1, h2⟩ := hm i a mo e1 e2
    by_cases ha : a ∈ θ₁
    · exact h1 ha
    · have hθ : a ∈ θ := List.mem_of_getElem? e1
      refine (S.muts.2 i a mo e1 (h2 ha)).kp k hW S.own.FLX gr.sub (fun q => ?_) fun q => (S.own.fl a q).1 hθ
      rcases List.mem_append.mp q with q | q
      · exact ha q
      · exact (List.nodup_append.mp S.own.nd).2.2 a hθ a q rfl
  · obtain ⟨x, v, e1, V, R⟩ := S.var i d e
    exact ⟨x, v, e1, V.kp k hE, R.kp k hW S.own.FLX (fun _ _ e => e) gr.sub⟩
theorem Ext.of_grow {X' : List Addr} (k : Kp (θ ++ G.tA) (FL A) h h') (gr : Grow G h X h' X') : Ext G A θ X h θ X' h' := ⟨k, ⟨[], by simp, fun _ q => nomatch q⟩, gr.sup, gr.sub⟩

theorem Own.one (O : Own G A h θ X) {k : Nat} {a : Addr} (e : θ[k]? = some a) : Own G A h [a] X := by
  have hm := List.mem_of_getElem? e
  refine ⟨fun c hc => O.inX c (hc.imp (fun q => by rw [List.mem_singleton.mp q]; exact hm) id), O.lt, ?_, fun c hc => ⟨fun q => (O.fl c hc).1 (by rw [List.mem_singleton.mp q]; exact hm), (O.fl c hc).2⟩, O.new⟩
  rw [List.nodup_append]
  refine ⟨by simp, (List.nodup_append.mp O.nd).2.1, fun x hx y hy => ?_⟩
  rw [List.mem_singleton.mp hx]
  exact (List.nodup_append.mp O.nd).2.2 a hm y hy
theorem Own.nil (O : Own G A h θ X) : Own G A h [] X := by
  refine ⟨fun c hc => O.inX c (hc.imp (fun q => nomatch q) id), O.lt, ?_, fun c hc => ⟨(fun q => nomatch q), (O.fl c hc).2⟩, O.new⟩
  simpa using (List.nodup_append.mp O.nd).2.1
theorem Muts.one (M : Muts G h θ X μ) {k : Nat} {a : Addr} {mo : MO} (e : θ[k]? = some a) (e' : μ[k]? = some mo) : Muts G h [a] X [mo] := ⟨rfl, fun i c m h1 h2 => by
  cases i with
  | zero => cases h1; cases h2; exact M.2 k a mo e e'
  | succ i => exact nil_get (i := i) h1⟩
theorem Muts.nil : Muts G h [] X [] := ⟨rfl, fun i c m h1 h2 => nil_get (i := i) h1⟩
theorem muts_singleton {a : Addr} {μ' : List MO} (M : Muts G h [a] X μ') : ∃ mo, μ' = [mo] ∧ MRep G h X a mo :=
  (List.length_eq_one_iff.mp M.1.symm).elim fun mo e => ⟨mo, e, M.2 0 a mo rfl (e ▸ rfl)⟩
theorem muts_empty {μ' : List MO} (M : Muts G h [] X μ') : μ' = [] := List.length_eq_zero_iff.mp M.1.symm

theorem Loose.up {θ₁ X' : List Addr} {a : Addr} (x : Loose G h θ₁ X' a) (O : Own G A h θ X) : Loose G h θ X' a := ⟨x.1, x.2.1, fun q => absurd (O.lt a (O.inX a (.inl q))) (Nat.not_lt.mpr x.2.1), x.2.2.2⟩
theorem ExcAt.up {θ₁ X' : List Addr} {e : Addr} {c : Exn} (x : ExcAt G h θ₁ X' h' e c) (O : Own G A h θ X) : ExcAt G h θ X' h' e c := x.map fun _ y => y.up O

theorem nodup_ne {l : List Addr} (hd : l.Nodup) {i j : Nat} {a : Addr} (h1 : l[i]? = some a) (h2 : l[j]? = some a) : i = j := by
  obtain ⟨b1, c1⟩ := List.getElem?_eq_some_iff.mp h1
  obtain ⟨b2, c2⟩ := List.getElem?_eq_some_iff.mp h2
  exact (List.getElem_inj hd).mp (c1.trans c2.symm)

/-- a def called that may write at the handles θ₁ of the caller -/
theorem call_sub {fa : Addr} {S : PF} (H : FV G b fa S) (hA : AOk A b) (St : Stt G A env ns θ X s.heap ρ μ) {θ₁ : List Addr} {μ₁ : List MO} {vals : List Value} {r : List D} {Q Q' : D → List MO → Prop} {Ex Ex' : Exn → List MO → Prop} {up : List MO → List MO}
    (hsub : ∀ c ∈ θ₁, c ∈ θ) (O : Own G A s.heap θ₁ X) (M₁ : Muts G s.heap θ₁ X μ₁) (R : Reps G s.heap θ₁ X vals r) (p : S r μ₁ Q' Ex')
    (hup : ∀ {h' X' μ'}, Muts G h' θ₁ X' μ' → θ.length = (up μ').length ∧ ∀ (i : Nat) a mo, θ[i]? = some a → (up μ')[i]? = some mo → (a ∈ θ₁ → MRep G h' X' a mo) ∧ (a ∉ θ₁ → μ[i]? = some mo))
    (kQ : ∀ {h' X' μ' d}, Muts G h' θ₁ X' μ' → Q' d μ' → Q d (up μ')) (kE : ∀ {h' X' μ' d}, Muts G h' θ₁ X' μ' → Ex' d μ' → Ex d (up μ')) :
    wpAny G.M A (call (.ref fa) vals) (Post G A env ns ρ θ X s Q) (PostX G A env ns ρ θ X s Ex) s := by
  have kpm : ∀ {h'}, Kp (θ₁ ++ G.tA) (FL A) s.heap h' → Kp (θ ++ G.tA) (FL A) s.heap h' := fun kp => kp.mono (fun c q => .inl ((List.mem_append.mp q).elim (fun q => List.mem_append_left _ (hsub c q)) (List.mem_append_right _))) fun _ q => .inl q
  have mk : ∀ {h' X' μ'}, Kp (θ₁ ++ G.tA) (FL A) s.heap h' → Inv G A X' h' → Grow G s.heap X h' X' → Muts G h' θ₁ X' μ' → Stt G A env ns θ X' h' ρ (up μ') := fun kp I gr M => St.call hsub kp I gr (hup M).1 (hup M).2
  refine wpAny_call (codeAny_mono (H A θ₁ X s vals r μ₁ _ _ hA St.inv O M₁ R p) fun res s' hr => ?_)
  rcases res with w | (w | _ | _ | w)
  · obtain ⟨e, c, μ', X', rfl, kp, I, gr, M, Xc, q, rr⟩ := hr
    exact ⟨θ, X', e, c, _, rfl, .of_grow (kpm kp) gr, mk kp I gr M, Xc.up St.own, kE M q, rr⟩
  · exact hr.elim
  · exact hr.elim
  · exact hr.elim
  · obtain ⟨d, μ', kp, I, M, Rv, q, rr⟩ := hr
    exact ⟨θ, X, d, _, .of_kp (kpm kp), mk kp I (.same St.own kp.1) M, Rv.cl, kQ M q, rr⟩

theorem call_one {fa : Addr} {S : PF} (H : FV G b fa S) (hA : AOk A b) (St : Stt G A env ns θ X s.heap ρ μ) {k : Nat} {a : Addr} {v : Value} {d₀ : D} {vals : List Value} {r : List D} {Q : D → List MO → Prop} {Ex : Exn → List MO → Prop}
    (e1 : θ[k]? = some a) (R₀ : Rep G s.heap [a] X v d₀) (R : Reps G s.heap θ X vals r) (p : callH S d₀ k r μ Q Ex) :
    wpAny G.M A (call (.ref fa) (v :: vals)) (Post G A env ns ρ θ X s Q) (PostX G A env ns ρ θ X s Ex) s := by
  refine p.elim fun mo e2 p => ?_
  obtain ⟨c, p⟩ := guard.out p
  have nd := (List.nodup_append.mp St.own.nd).1
  refine call_sub H hA St (θ₁ := [a]) (up := fun μ' => μ.set k (μ'.headD mo)) (fun c hc => List.mem_singleton.mp hc ▸ List.mem_of_getElem? e1) (St.own.one e1) (St.muts.one e1 e2) (.cons R₀ (R.uncl c).cl) p
    (fun M => ⟨St.muts.1.trans List.length_set.symm, fun i c m h1 h2 => ?_⟩) (fun M q => ?_) (fun M q => ?_)
  · obtain ⟨mo', rfl, Mr⟩ := muts_singleton M
    refine ⟨fun q => ?_, fun q => ?_⟩
    · have q := List.mem_singleton.mp q
      subst q
      cases nodup_ne nd h1 e1
      rw [List.getElem?_set_self (List.getElem?_eq_some_iff.mp e2).1] at h2
      exact Option.some.inj h2 ▸ Mr
    · rwa [List.getElem?_set_ne fun z => q (by subst z; exact List.mem_singleton.mpr (Option.some.inj (h1.symm.trans e1)))] at h2
  · obtain ⟨mo', rfl, Mr⟩ := muts_singleton M
    exact q
  · obtain ⟨mo', rfl, Mr⟩ := muts_singleton M
    exact q
theorem call_zero {fa : Addr} {S : PF} (H : FV G b fa S) (hA : AOk A b) (St : Stt G A env ns θ X s.heap ρ μ) {vals : List Value} {r : List D} {Q : D → List MO → Prop} {Ex : Exn → List MO → Prop}
    (R : Reps G s.heap θ X vals r) (p : call0 S r μ Q Ex) :
    wpAny G.M A (call (.ref fa) vals) (Post G A env ns ρ θ X s Q) (PostX G A env ns ρ θ X s Ex) s :=
  call_sub H hA St (θ₁ := []) (up := fun _ => μ) (fun _ q => nomatch q) St.own.nil .nil (R.uncl p.out.1).cl p.out.2 (fun _ => ⟨St.muts.1, fun _ _ _ _ h2 => ⟨(fun q => nomatch q), fun _ => h2⟩⟩) (fun _ q => q) fun _ q => q

theorem call_any {fa : Addr} {S : PF} (H : FV G b fa S) (hA : AOk A b) (St : Stt G A env ns θ X s.heap ρ μ) {vals : List Value} {ds : List D} {Q : D → List MO → Prop} {Ex : Exn → List MO → Prop}
    (R : Reps G s.heap θ X vals ds) (p : callT S ds μ Q Ex) : wpAny G.M A (call (.ref fa) vals) (Post G A env ns ρ θ X s Q) (PostX G A env ns ρ θ X s Ex) s := by
  cases ds with
  | nil => exact call_zero H hA St R p
  | cons d ds =>
    cases d with
    | hl =>
      obtain ⟨⟨e⟩, R⟩ := R
      exact call_one H hA St e (.hl rfl) R p
    | hi =>
      obtain ⟨⟨e, e', n⟩, R⟩ := R
      exact call_one H hA St e (.hi rfl e' n) R p
    | _ => exact call_zero H hA St R p

/-! ## a call in the text -/
theorem evalArgs_any {M : Model} {f : Value} {es : List Expr} {Q : Args → Shared → Prop} {E : Value → Shared → Prop} (h : wpAny M A (spliced (plainArgs env es)) (fun vs s' => Q ⟨vs, []⟩ s') E s) : wpAny M A (evalArgs f true (plainArgs env es) []) Q E s := by
  cases es with
  | nil =>
    unfold evalArgs
    show wpAny M A (spliced [] >>= _) Q E s
    refine wpAny_bind (wpAny_bind (wpAny_mono h (fun vs s' h' => ?_) fun _ _ x => x))
    refine wpAny_pure (wpAny_holding ?_)
    simp only [List.all_nil, if_true, List.filterMap_nil, List.map_nil, evalAll]
    exact wpAny_bind (wpAny_pure (wpAny_bind (wpAny_pure (wpAny_pure h'))))
  | cons e r => exact evalArgs_plain h
theorem callWith_any {f : Value} {first : List Value} {es : List Expr} {pos : Pos} {P : Heap → Prop} {Q : Value → Shared → Prop} {E : Value → Shared → Prop} (hn : noStar es = true)
    (hk : ∀ h, P h → ∃ k, (k = Keeper.frame ∨ k = Keeper.machine ∨ k = Keeper.boundFrame) ∧ Looks G.M h (keeperOf f) k)
    (h : wpAny G.M A (spliced (plainArgs env es)) (fun vs s₁ => P s₁.heap ∧ wpAny G.M A (call f (first ++ vs)) Q E s₁) E s) :
    wpAny G.M A (callWith pos f first (backTo pos (starEach es env)) (backToKw pos (keywordEach [] env))) Q E s := by
  rw [backTo_plain _ _ _ hn]
  exact callWith_of (by rw [plainArgs_any]; rfl) hk (evalArgs_any h)

def tCall (L : PL) (S : PF) : PE := fun ρ μ Q Ex => L ρ μ (fun ds μ' => callT S ds μ' Q Ex) Ex
theorem EV_call (O : G.Ok) {x : Str} {np pos} {es : List Expr} {L : PL} {fa : Addr} {S : PF} (hS : FV G b fa S) (hl : EL G b fs ns es L) (hn : noStar es = true) (hx : fs.sc.names.lookup x = some .globalImplicit)
    (hg : nsIn G.K mainGlobals x = some (some (.ref fa))) (hk : keepIn G.K (.ref fa) = true) (hd : (x == ("__debug__" : Str)) = false) : EV G b fs ns (.Call (.Name x np) es [] pos) (tCall L S) := fun A env θ X s ρ μ Q Ex hA he St p => by
  obtain ⟨_, _, T⟩ := O.T
  refine wpAny_Call_Name_kw (Name_function_global St.eo.kind (by unfold Env.kindOf; rw [he.1]; exact hx) (loadGlobal_global (env := env) (by rw [St.eo.glob]; exact T.g.keeps St.inv.base) (mg_of O.X T.g hg) ?_) hd)
  refine callWith_any (G := G) (P := fun h => G.K.In h) hn (fun h X => keeps_K hk h X) (wpAny_mono (hl A env θ X s ρ μ _ Ex hA he St p) (fun vs s₁ h₁ => ?_) fun _ _ q => q)
  obtain ⟨θ₁, X₁, ds, μ₁, e₁, S₁, R₁, q₁, r₁⟩ := h₁
  exact ⟨O.X.keeps S₁.inv.base, wpAny_mono (call_any hS hA S₁ R₁ q₁) (fun _ _ q => q.rebase e₁ r₁) fun _ _ q => q.rebase e₁ r₁⟩

/-! built-in functions and types, called -/
abbrev TN := List MO → List D → (D → Prop) → Prop
def OpN (G : Gr) (b : Nat) (f : Value) (T : TN) : Prop :=
  ∀ (A : Around) (θ X : List Addr) (s : Shared) μ vals ds Q, AOk A b → (∀ b o, G.h₀.get? b = some o → s.heap.get? b = some o) → (∀ a ∈ X, a < s.heap.objs.size) → Muts G s.heap θ X μ → Reps G s.heap θ X vals ds → T μ ds Q → VOk G A θ X s (call f vals) Q
def tBi (L : PL) (T : TN) : PE := fun ρ μ Q Ex => L ρ μ (fun ds μ' => T μ' ds (fun d => Q d μ')) Ex
def notRef : Value → Bool
  | .ref _ => false
  | _ => true
theorem keeper_plain {f : Value} (hf : notRef f = true) (h : Heap) : ∃ k, (k = Keeper.frame ∨ k = Keeper.machine ∨ k = Keeper.boundFrame) ∧ Looks G.M h (keeperOf f) k := by
  refine ⟨.machine, .inr (.inl rfl), Looks.of_pure ?_⟩
  cases f <;> first | rfl | cases hf
theorem EV_bcall (O : G.Ok) {x : Str} {np pos} {es : List Expr} {L : PL} {f : Value} {T : TN} (hT : OpN G b f T) (hl : EL G b fs ns es L) (hn : noStar es = true) (hx : fs.sc.names.lookup x = some .globalImplicit)
    (hg : nsIn G.K mainGlobals x = some none) (hv : bootBuiltins x = some f) (hx' : x ≠ "__name__") (hf : notRef f = true) (hd : (x == ("__debug__" : Str)) = false) : EV G b fs ns (.Call (.Name x np) es [] pos) (tBi L T) := fun A env θ X s ρ μ Q Ex hA he St p => by
  obtain ⟨_, _, T⟩ := O.T
  refine wpAny_Call_Name_kw (Name_function_global St.eo.kind (by unfold Env.kindOf; rw [he.1]; exact hx) (loadGlobal_builtin (env := env) (by rw [St.eo.glob]; exact T.g.keeps St.inv.base) (mg_none_of O.X T.g hg) (by rw [he.2.2.2.1]; exact T.b.keeps St.inv.base) ((T.builtins x hx').trans hv) ?_) hd)
  refine callWith_any (G := G) (P := fun _ => True) hn (fun h _ => keeper_plain hf h) (wpAny_mono (hl A env θ X s ρ μ _ Ex hA he St p) (fun vs s₁ h₁ => ?_) fun _ _ q => q)
  obtain ⟨θ₁, X₁, ds, μ₁, e₁, S₁, R₁, q₁, r₁⟩ := h₁
  exact ⟨trivial, (hT A θ₁ X₁ s₁ μ₁ vs ds _ hA S₁.inv.base S₁.own.lt S₁.muts R₁ q₁).post S₁ e₁ r₁⟩
end
end Mine
namespace Mine
open PySem PySem.W PySem.Calls PyProof.Rows

section
variable {G : Gr} {b : Nat} {fs : Fs} {ns : List Str} {A : Around} {env : Env} {θ X : List Addr} {h h' : Heap} {ρ : List (Option D)} {μ : List MO} {s s' : Shared}

/-! ## the classes of the text -/
structure ClsOk (G : Gr) (c : Cls) : Prop where
  nd : c.names.Nodup
  get : ∀ nm ∈ c.names, plainGet G.K (G.cA c) nm = true ∧ findIn G.K (.ref (G.cA c)) nm = some none
  dict : hasDictIn G.K (G.cA c) = true
  set : findIn G.K (.ref (G.cA c)) "__setattr__" = some (some (.builtin "object.__setattr__"))
  over : plainOver G.K (G.cA c) = true
  taker : ∀ nm ∈ c.names, takerIn G.K (G.cA c) nm = some none

theorem nil_get' {α : Type} {p : Prop} {i : Nat} {a : α} (e : ([] : List α)[i]? = some a) : p := nomatch (List.getElem?_nil (i := i)).symm.trans e
theorem getL_cons {P : Params} {nm n : Str} {t : Tok} {w : Value} {ns : List Str} {ts : List Tok} {vs : List Value} : getL nm (mkEs P (n :: ns) (t :: ts) (w :: vs)) = if n == nm then some (some w) else getL nm (mkEs P ns ts vs) := by
  unfold getL
  rw [show mkEs P (n :: ns) (t :: ts) (w :: vs) = ⟨PyData.keyHash P n, .str n t, w⟩ :: mkEs P ns ts vs from rfl, List.find?_cons]
  have : (Value.str n t).isStr nm = (n == nm) := rfl
  simp only [this]
  cases n == nm <;> rfl
theorem getL_mk {P : Params} {nm : Str} {v : Value} : ∀ {ns : List Str} {ts : List Tok} {vs : List Value} {i : Nat}, ns.Nodup → ns[i]? = some nm → vs[i]? = some v → ts.length = vs.length → getL nm (mkEs P ns ts vs) = some (some v)
  | [], _, _, _, _, h1, _, _ => nil_get' h1
  | n :: ns, ts, [], _, _, _, h2, _ => nil_get' h2
  | n :: ns, [], _ :: _, _, _, _, _, hl => nomatch hl
  | n :: ns, t :: ts, w :: vs, 0, _, h1, h2, _ => by
    rw [getL_cons, if_pos (beq_iff_eq.mpr (Option.some.inj h1))]
    exact congrArg some h2
  | n :: ns, t :: ts, w :: vs, i + 1, nd, h1, h2, hl => by
    have nd := List.nodup_cons.mp nd
    rw [getL_cons, if_neg fun q => nd.1 ((beq_iff_eq (a := n) (b := nm)).mp q ▸ List.mem_of_getElem? (i := i) h1)]
    exact getL_mk nd.2 h1 h2 (Nat.succ.inj hl)
theorem getL_none {P : Params} {nm : Str} : ∀ {ns : List Str} {ts : List Tok} {vs : List Value}, nm ∉ ns → getL nm (mkEs P ns ts vs) = some none
  | n :: ns, t :: ts, w :: vs, hn => by
    rw [getL_cons, if_neg fun q => hn ((beq_iff_eq (a := n) (b := nm)).mp q ▸ .head _)]
    exact getL_none fun q => hn (.tail _ q)
  | [], _, _, _ => rfl
  | _ :: _, [], _, _ => rfl
  | _ :: _, _ :: _, [], _ => rfl

/-- the fields of an object of class c that a datum stands for -/
def fldsOf (c c' : Cls) (l : List D) : Option (List D) := match c'.same c with
  | true => some l
  | false => none
theorem fldsOf_eq {c c' : Cls} {l l' : List D} (h : fldsOf c c' l = some l') : c' = c ∧ l = l' := by
  unfold fldsOf at h
  cases e : c'.same c with
  | true => rw [e] at h; exact ⟨Cls.eq_of_same e, Option.some.inj h⟩
  | false => rw [e] at h; exact non h
def MO.inst? (c : Cls) : MO → Option (List D)
  | .inst c' l => fldsOf c c' l
  | _ => none
def viewI (μ : List MO) (c : Cls) : D → Option (List D)
  | .inst c' l => fldsOf c c' l
  | .hi k c' => (μ[k]?.bind (MO.inst? c)).bind (fldsOf c c')
  | _ => none
inductive IsI (G : Gr) (h : Heap) (θ X : List Addr) (c : Cls) (l : List D) : Value → Prop
  | mk {x dx : Addr} {n : Nat} {ts : List Tok} {vs : List Value} : h.get? x = some (instObj (G.cA c) dx) → h.get? dx = some (dictOf (mkEs G.w.params c.names ts vs) n) → ts.length = vs.length → vs.length ≤ c.names.length → Reps G h θ X vs l → IsI G h θ X c l (.ref x)
theorem viewI_rep {v : Value} {d : D} {c : Cls} {l : List D} (R : Rep G h θ X v d) (M : Muts G h θ X μ) (e : viewI μ c d = some l) : IsI G h θ X c l v := by
  cases d with
  | inst =>
    obtain ⟨rfl, rfl⟩ := fldsOf_eq e
    obtain ⟨e1, e2, n1, n2, l1, r, z⟩ := R
    exact .mk e1 e2 l1 (Nat.le_of_eq z) r
  | hi =>
    obtain ⟨l', e3, e'⟩ := Option.bind_eq_some_iff.mp e
    obtain ⟨mo, hm, e3⟩ := Option.bind_eq_some_iff.mp e3
    obtain ⟨rfl, rfl⟩ := fldsOf_eq e'
    obtain ⟨h1, h2, h3⟩ := R
    have m := M.2 _ _ _ h1 hm
    cases mo with
    | inst =>
      obtain ⟨rfl, rfl⟩ := fldsOf_eq e3
      obtain ⟨e1, e2, e3, e4⟩ := m
      exact .mk h2 e1 e2 e3 e4.cl
    | _ => exact non e3
  | _ => exact non e

def D.notVal : D → Bool
  | .ty _ => false
  | .val _ => false
  | _ => true
def tAttr (c : Cls) (i : Nat) (P : PE) : PE := fun ρ μ Q Ex => P ρ μ (fun d μ' => need (viewI μ' c d) fun l => need l[i]? fun x => guard x.notVal (Q x μ')) Ex
theorem inst_at {x dx : Addr} {C : Addr} {es : List DictEntry} {n : Nat} (e1 : h.get? x = some (instObj C dx)) (e2 : h.get? dx = some (dictOf es n)) : InstAt h x (instObj C dx) C (some (dictOf es n)) := ⟨e1, rfl, rfl, e2⟩
theorem handed_rep {v : Value} {d : D} (R : Rep G h θ X v d) (hd : d.notVal = true) : handedIn v = true := by
  cases d with
  | none => cases R; rfl
  | bool => cases R; rfl
  | int => obtain ⟨_, rfl⟩ := R; rfl
  | str => obtain ⟨_, rfl⟩ := R; rfl
  | bytes => obtain ⟨_, rfl⟩ := R; rfl
  | ty => exact nomatch hd
  | val => exact nomatch hd
  | tup => cases R; rfl
  | list => cases R; rfl
  | inst => cases R; rfl
  | hl => cases R; rfl
  | hi => cases R; rfl
theorem EV_attr (O : G.Ok) {c : Cls} (C : ClsOk G c) (i : Nat) {x : Expr} {P : PE} {nm : Str} {pos} (hx : EV G b fs ns x P) (hi : c.names[i]? = some nm) (hb : ∀ env (w : Sem Value), attributeBase x nm env w = w) :
    EV G b fs ns (.Attribute x nm pos) (tAttr c i P) := fun A env θ X s ρ μ Q Ex hA he S p => by
  show wpAny _ _ (do let o ← attributeBase x nm env (eval x env); standAt pos.atName; let r ← holding [o] (getAttr o nm true); letTemporaryGo x o r; pure r) _ _ _
  rw [hb]
  refine wpAny_bind (hx.go hA he S p (fun v s₁ θ₁ X₁ d μ₁ e₁ S₁ R₁ q₁ r₁ => wpAny_bind (wpAny_standAt (wpAny_bind (wpAny_holding ?_)))) fun _ _ q => q)
  refine need.elim q₁ fun l hv q₁ => need.elim q₁ fun y hy q₁ => ?_
  obtain ⟨hnv, q₁⟩ := guard.out q₁
  obtain ⟨e1, e2, l1, l2, r⟩ := viewI_rep R₁ S₁.muts hv
  obtain ⟨w, hw, Rw⟩ := r.get hy
  have hnm := List.mem_of_getElem? hi
  have X₁' := O.X.keeps S₁.inv.base
  refine get_value X₁' (inst_at e1 e2) (plainGet_of (C.get nm hnm).1).1 (findObj_own C.dict (C.get nm hnm).2 rfl (by rw [lookIn_dict]; exact getL_mk C.nd hi hw l1)) (handed_rep Rw hnv) ?_
  exact wpAny_bind (wpAny_letTemporaryGo (wpAny_pure ⟨θ₁, X₁, y, μ₁, e₁, S₁, Rw, q₁, r₁.trans rfl⟩))

/-! ## a method called -/
def tMeth (c : Cls) (P : PE) (L : PL) (S : PF) : PE := fun ρ μ Q Ex => P ρ μ (fun d μ₁ => need (viewI μ₁ c d) fun _ => L ρ μ₁ (fun ds μ₂ => callT S (d :: ds) μ₂ Q Ex) Ex) Ex
theorem EV_meth (O : G.Ok) {c : Cls} {x : Expr} {P : PE} {es : List Expr} {L : PL} {fa : Addr} {S : PF} {nm : Str} {apos pos : Pos} (hS : FV G b fa S) (hx : EV G b fs ns x P) (hl : EL G b fs ns es L) (hn : noStar es = true)
    (hg : plainGet G.K (G.cA c) nm = true) (hf : findIn G.K (.ref (G.cA c)) nm = some (some (.ref fa))) (ht : isFn G.K (.ref fa) = true) (hk : keepIn G.K (.ref fa) = true) (hnm : nm ∉ c.names)
    (he : ∀ env, ∃ pl, eval (.Call (.Attribute x nm apos) es [] pos) env = (do
      let ov ← eval x env
      standAt apos.atName
      let (f, first) ← holding [ov] (getMethod ov nm pl)
      callWith pos f first (backTo pos (starEach es env)) (backToKw pos (keywordEach [] env)))) :
    EV G b fs ns (.Call (.Attribute x nm apos) es [] pos) (tMeth c P L S) := fun A env θ X s ρ μ Q Ex hA he' St p => by
  obtain ⟨pl, hev⟩ := he env
  rw [hev]
  refine wpAny_bind (hx.go hA he' St p (fun v s₁ θ₁ X₁ d μ₁ e₁ S₁ R₁ q₁ r₁ => wpAny_bind (wpAny_standAt (wpAny_bind (wpAny_holding ?_)))) fun _ _ q => q)
  refine need.elim q₁ fun l hv q₁ => ?_
  obtain ⟨e1, e2, l1, l2, r⟩ := viewI_rep R₁ S₁.muts hv
  have X₁' := O.X.keeps S₁.inv.base
  refine method_fn X₁' (inst_at e1 e2) (plainGet_of hg).1 (plainGet_of hg).2 hf (beq_iff_eq.mp ht) (by show (lookIn nm (dictOf _ _)).map _ = _; rw [lookIn_dict, getL_none hnm]; rfl) ?_
  refine callWith_any (G := G) (P := fun h => G.K.In h) hn (fun h X => keeps_K hk h X) (wpAny_mono (hl A env θ₁ X₁ s₁ ρ μ₁ _ Ex hA he' S₁ q₁) (fun vs' s₂ h₂ => ?_) fun _ _ q => q.rebase e₁ r₁)
  obtain ⟨θ₂, X₂, ds, μ₂, e₂, S₂, R₂, q₂, r₂⟩ := h₂
  exact ⟨O.X.keeps S₂.inv.base, wpAny_mono (call_any hS hA S₂ (.cons (R₁.ext S₁.own e₂) R₂) q₂) (fun _ _ q => q.rebase (e₁.trans e₂) (r₁.trans r₂)) fun _ _ q => q.rebase (e₁.trans e₂) (r₁.trans r₂)⟩

/-! ## what is written at a handle -/
theorem Stt.write {h' : Heap} {k : Nat} {a : Addr} {mo mo' : MO} (St : Stt G A env ns θ X h ρ μ) (e1 : θ[k]? = some a) (e2 : μ[k]? = some mo) (kp : Kp [a] [] h h') (M : MRep G h' X a mo') :
    Stt G A env ns θ X h' ρ (μ.set k mo') ∧ Ext G A θ X h θ X h' := by
  have hk : k < μ.length := (List.getElem?_eq_some_iff.mp e2).1
  have hm := List.mem_of_getElem? e1
  have kp1 : Kp ([a] ++ G.tA) (FL A) h h' := kp.mono (fun c q => .inl (List.mem_append_left _ q)) fun _ q => nomatch q
  have kp2 : Kp [a] (FL A) h h' := kp.mono (fun c q => .inl q) fun _ q => nomatch q
  have kp3 : Kp (θ ++ G.tA) (FL A) h h' := kp.mono (fun c q => .inl (by rw [List.mem_singleton.mp q]; exact List.mem_append_left _ hm)) fun _ q => nomatch q
  have nd := (List.nodup_append.mp St.own.nd).1
  have aX : a ∈ X := St.own.inX a (.inl hm)
  have I : Inv G A X h' := St.inv.kp kp2 (fun c q => by rw [List.mem_singleton.mp q]; exact aX) St.own.new (fun c hc q => (St.own.fl c hc).1 (by rw [List.mem_singleton.mp q]; exact hm)) (fun c hc => (St.own.fl c hc).2)
    fun c hc q => (List.nodup_append.mp St.own.nd).2.2 a hm c hc (List.mem_singleton.mp q).symm
  refine ⟨St.call (θ₁ := [a]) (fun c hc => by rw [List.mem_singleton.mp hc]; exact hm) kp1 I (.same St.own kp.1) (by rw [List.length_set]; exact St.muts.1) fun i c m h1 h2 => ⟨fun q => ?_, fun q => ?_⟩, .of_kp kp3⟩
  · rw [List.mem_singleton.mp q] at h1 ⊢
    have := nodup_ne nd h1 e1
    subst this
    rw [List.getElem?_set_self hk] at h2; cases h2; exact M
  · rw [List.getElem?_set_ne (fun z => q (by subst z; rw [e1] at h1; cases h1; exact List.mem_singleton.mpr rfl))] at h2
    exact h2

theorem push_list (vs : List Value) (v : Value) : vs.toArray.push v = (vs ++ [v]).toArray := by simp
def D.hl? : D → Option Nat
  | .hl k => some k
  | _ => Option.none
theorem Rep.ofHl {v : Value} {d : D} {k : Nat} (e : d.hl? = some k) (R : Rep G h θ X v d) : RHl θ k v := by
  cases d with
  | hl => exact Option.some.inj e ▸ R
  | _ => exact non e
def tApp (P R : PE) : PE := fun ρ μ Q Ex => P ρ μ (fun d μ₁ => need d.hl? fun k => need (μ₁[k]?.bind MO.list?) fun _ => R ρ μ₁ (fun y μ₂ => need (μ₂[k]?.bind MO.list?) fun l => guard (clD y) (l.length ≤ 1000000 ∧ Q .none (μ₂.set k (.list (l ++ [y]))))) Ex) Ex
theorem mo_list {mo : MO} {l : List D} (e : mo.list? = some l) : mo = .list l := by
  cases mo with
  | list => exact congrArg MO.list (Option.some.inj e)
  | _ => exact non e
theorem list_of_hl {a : Addr} {k : Nat} (M : Muts G h θ X μ) (e : θ[k]? = some a) {l : List D} (e2 : μ[k]?.bind MO.list? = some l) : μ[k]? = some (.list l) ∧ ML G h X a l := by
  obtain ⟨mo, hm, e2⟩ := Option.bind_eq_some_iff.mp e2
  cases mo_list e2
  exact ⟨hm, M.2 _ _ _ e hm⟩
theorem muts_some (M : Muts G h θ X μ) {k : Nat} {a : Addr} (e : θ[k]? = some a) : ∃ mo, μ[k]? = some mo :=
  ⟨_, List.getElem?_eq_getElem (M.1 ▸ (List.getElem?_eq_some_iff.mp e).1)⟩
theorem EV_app {x y : Expr} {P R : PE} {apos pos : Pos} (hx : EV G b fs ns x P) (hy : EV G b fs ns y R) (hn : noStar [y] = true)
    (he : ∀ env, ∃ pl, eval (.Call (.Attribute x "append" apos) [y] [] pos) env = (do
      let ov ← eval x env
      standAt apos.atName
      let (f, first) ← holding [ov] (getMethod ov "append" pl)
      callWith pos f first (backTo pos (starEach [y] env)) (backToKw pos (keywordEach [] env)))) :
    EV G b fs ns (.Call (.Attribute x "append" apos) [y] [] pos) (tApp P R) := fun A env θ X s ρ μ Q Ex hA he' St p => by
  obtain ⟨pl, hev⟩ := he env
  rw [hev]
  refine wpAny_bind (hx.go hA he' St p (fun v s₁ θ₁ X₁ d μ₁ e₁ S₁ R₁ q₁ r₁ => wpAny_bind (wpAny_standAt (wpAny_bind (wpAny_holding ?_)))) fun _ _ q => q)
  refine need.elim q₁ fun k hd q₁ => need.elim q₁ fun l₁ hl₁ q₁ => ?_
  obtain ⟨ea⟩ := R₁.ofHl hd
  obtain ⟨hg, r⟩ := (list_of_hl S₁.muts ea hl₁).2
  refine Calls.getMethod_list_append hg rfl rfl ?_
  refine callWith_any (G := G) (P := fun _ => True) hn (fun h _ => keeper_plain rfl h) ?_
  show wpAny _ _ (spliced ((false, eval y env) :: [])) _ _ _
  refine spliced_cons (hy.go hA he' S₁ q₁ (fun w s₂ θ₂ X₂ d₂ μ₂ e₂ S₂ R₂ q₂ r₂ => spliced_nil ⟨trivial, ?_⟩) fun _ _ q => q.rebase e₁ r₁)
  refine need.elim q₂ fun l hl q₂ => ?_
  obtain ⟨hc, z, q₂⟩ := guard.out q₂
  have ea' := e₂.th _ _ ea
  obtain ⟨hm, ⟨hg, r⟩⟩ := list_of_hl S₂.muts ea' hl
  refine append_at hg (fun h' sb hg' => ?_) (by rw [List.size_toArray, r.length, sizeLine_eq]; omega)
  have kp := Kp.sameBut (W := [_]) (F := []) sb (.head _)
  rw [push_list] at hg'
  obtain ⟨S₃, e₃⟩ := S₂.write (mo' := .list (l ++ [d₂])) ea' hm kp (.mk hg' (((r.append (Reps.cons (R₂.uncl hc) .nil))).kp kp (fun c q => List.mem_singleton.mp q ▸ S₂.own.inX _ (.inl (List.mem_of_getElem? ea'))) (fun _ q => nomatch q) (fun _ _ e => e) fun _ q => .inl q))
  exact ⟨θ₂, X₂, .none, _, (e₁.trans e₂).trans e₃, S₃, .none, q₂, (r₁.trans r₂).trans .mkH⟩
end
end Mine
namespace Mine
open PySem PySem.W PySem.Calls PyProof.Rows

section
variable {G : Gr} {b : Nat} {fs : Fs} {ns : List Str} {A : Around} {env : Env} {θ X X' : List Addr} {h h' h'' hs : Heap} {ρ : List (Option D)} {μ : List MO} {s s' : Shared} {W : List Addr}

/-! ## an exception on its way -/
theorem Inv.grow (I : Inv G A X h) (sub : ∀ b ∈ X', b ∈ X ∨ h.objs.size ≤ b) : Inv G A X' h := ⟨I.base, fun q hq => (I.tabs q hq).mono (fun _ e => e) fun c s h2 h3 => ⟨h2, fun z => (sub c z).elim h3 fun l => absurd (codeRec_lt h2) (Nat.not_lt.mpr l)⟩, I.fs, I.frames⟩
theorem Stt.move (S : Stt G A env ns θ X h ρ μ) (k : Kp W (FL A) h h') (hW : ∀ a ∈ W, a ∈ X ∧ a ∉ θ ∧ a ∉ G.tA ∧ a ∉ FL A ∧ a ∉ envA env) (gr : Grow G h X h' X') : Stt G A env ns θ X' h' ρ μ := by
  have hX : ∀ a ∈ W, a ∈ X := fun a ha => (hW a ha).1
  have E := S.eo.kp k fun a ha q => (hW a q).2.2.2.2 ha
  refine ⟨(S.inv.grow gr.sub).kp k (fun a ha => gr.sup a (hX a ha)) gr.new (fun a ha q => (hW a q).2.2.2.1 ha) (fun a ha => (S.own.fl a ha).2) (fun a ha q => (hW a q).2.2.1 ha),
    ⟨fun a ha => gr.sup a (S.own.inX a ha), gr.lt, S.own.nd, S.own.fl, gr.new⟩, S.muts.kp k hX S.own.FLX gr.sub fun a ha => ⟨fun q => (hW a q).2.1 ha, fun q => (S.own.fl a q).1 ha⟩,
    ⟨E.kind, E.glob, E.ns, E.cells, fun a ha => gr.sup a (E.inX a ha), E.off, E.nd, E.nfl⟩, fun i d e => ?_⟩
  obtain ⟨x, v, e1, V, R⟩ := S.var i d e
  exact ⟨x, v, e1, V.kp k fun a ha q => (hW a q).2.2.2.2 ha, R.kp k hX S.own.FLX (fun _ _ e => e) gr.sub⟩

/-- an exception that has been noted -/
inductive ExcTr (G : Gr) (hs : Heap) (θ X : List Addr) (h : Heap) (e : Addr) (c : Exn) : Prop
  | mk (l : Loose G hs θ X e) (oe : Obj) (vs : Array Value) (T : Addr) (oT : Obj) (ts : Array Value) : h.get? e = some oe → oe.cls = .ref (G.eA c) → oe.data = .fields vs → vs[1]? = some (.ref T) → Loose G hs θ X T → T ≠ e → h.get? T = some oT → oT.data = .fields ts → 3 < ts.size → ExcTr G hs θ X h e c
theorem ExcTr.at {e : Addr} {c : Exn} (x : ExcTr G hs θ X h e c) : ExcAt G hs θ X h e c := by
  obtain ⟨l, oe, vs, T, oT, ts, h1, h2, h3, h4, r1, r2, r3, r4, r5⟩ := x
  exact .mk l oe vs h1 h2 h3 (.inr (.mk T oT ts h4 r1 r2 r3 r4 r5))

theorem frame_dict (I : Inv G A X h) {a : Addr} (ha : a ∈ FL A) : ∃ o es n, h.get? a = some o ∧ o.data = .dict es n := by
  obtain ⟨en, hen, hfr⟩ := List.mem_filterMap.mp ha
  obtain ⟨_, L, o, es, n, e2, e3, e4, e5⟩ := I.frames en hen
  rw [hfr] at e2; cases e2
  exact ⟨o, es, n, e4, e5⟩
theorem fields_off (I : Inv G A X h) (E : EnvOk G A env h θ X) {a : Addr} {o : Obj} {vs : Array Value} (e : h.get? a = some o) (d : o.data = .fields vs) : a ∉ FL A ∧ a ∉ envA env := by
  refine ⟨fun q => ?_, fun q => ?_⟩
  · obtain ⟨o', es, n, e', d'⟩ := frame_dict I q
    rw [e] at e'; cases e'; rw [d] at d'; cases d'
  · rcases List.mem_cons.mp q with rfl | q
    · obtain ⟨m, o', es, n, e', d', _⟩ := E.ns
      rw [e] at e'; cases e'; rw [d] at d'; cases d'
    · obtain ⟨p, hp, rfl⟩ := List.mem_map.mp q
      obtain ⟨v, o', e', d'⟩ := E.cells p hp
      rw [e] at e'; cases e'; rw [d] at d'; cases d'
theorem funFrames_of {l : List Env} (hl : ∀ e ∈ l, FrameOk G h e) : h.FunFrames G.h₀ l := by
  induction l with
  | nil => trivial
  | cons e r ih =>
    obtain ⟨k, L, o, es, n, h1, h2, h3, h4⟩ := hl e (.head _)
    exact ⟨k, ⟨L, o, h1, h2, h3, fun vs q => by rw [h4] at q; cases q⟩, ih fun x hx => hl x (.tail _ hx)⟩
theorem kp_slots {S F : List Addr} (x : Heap.SlotsOnly S h h') (hS : ∀ a ∈ S, a ∈ F) : Kp W F h h' := ⟨by rw [x.1]; exact Nat.le_refl _, fun b o e _ => by
  obtain ⟨sl, e'⟩ := x.2.2 b o e
  refine ⟨sl, e', fun n => ?_⟩
  rw [x.2.1 b fun q => n (hS b q), e] at e'
  have := congrArg Obj.slots (Option.some.inj e')
  exact this.symm⟩

theorem entry_own {e L : Addr} {oe : Obj} {vs : Array Value} {head : Value} {hadNext : Bool} {outer : List Env} {E : Value → Shared → Prop} {Q : Unit → Shared → Prop} (hfr : frs A = env :: outer) (hf : env.frame = some L)
    (I : Inv G A X s.heap) (he : s.heap.get? e = some oe) (hd : oe.data = .fields vs) (hsz : 1 < vs.size) (heF : e ∉ FL A)
    (h : ∀ h' T oT ts, Kp [e] (FL A) s.heap h' → s.heap.objs.size ≤ T → T < h'.objs.size → h'.get? T = some oT → oT.data = .fields ts → 3 < ts.size → (∃ oe', h'.get? e = some oe' ∧ oe'.cls = oe.cls ∧ oe'.data = .fields (vs.setIfInBounds 1 (.ref T))) → Q () { s with heap := h' }) :
    wpAny G.M A (do let a ← frameOf env; let pl ← entryPlaceOf L hadNext; let b ← EntryCells.newEntry head a .none (rawInt L) .none pl; setField (.ref e) 1 b) Q E s := by
  have hF : A.frames = some (env :: outer) := by rw [I.fs, hfr]
  have hl : s.heap.FunFrames G.h₀ (env :: outer) := funFrames_of fun x hx => I.frames x (by rw [hfr]; exact hx)
  refine wpAny_bind (wpAny_frameOf_fun hF hl hf fun h₁ hs₁ => ?_)
  refine wpAny_bind (wpAny_entryPlaceOf fun pl hpl => ?_)
  unfold EntryCells.newEntry newFields
  refine wpAny_bind (wpAny_newObj_type ?_ (hpl.sizeOk5 _ _ _ _ _))
  have hFL : (env :: outer).filterMap (·.frame) = FL A := by unfold FL; rw [hfr]
  rw [hFL] at hs₁
  have he₁ : h₁.get? e = some oe := (hs₁.2.1 e heF).trans he
  have he₂ := Heap.get?_push_of_some (h := h₁) { cls := .type "traceback", dict := none, data := .fields ([head, .ref L, .none, rawInt L, .none] ++ (if pl.isEmpty then List.replicate 6 Value.none else pl)).toArray } he₁
  refine wpAny_setField he₂ hd hsz ?_
  have hTe : h₁.objs.size ≠ e := Nat.ne_of_gt (Heap.lt_size he₁)
  have hd₃ := Obj.data_mapFields hd (·.setIfInBounds 1 (Value.ref h₁.objs.size))
  have he₃ := Heap.get?_update_self (Obj.mapFields (·.setIfInBounds 1 (Value.ref h₁.objs.size))) he₂ (Obj.isFreed_of_fields hd₃)
  have hT₃ := (Heap.get?_update_other (h₁.push { cls := .type "traceback", dict := none, data := .fields ([head, .ref L, .none, rawInt L, .none] ++ (if pl.isEmpty then List.replicate 6 Value.none else pl)).toArray })
    (Obj.mapFields (·.setIfInBounds 1 (Value.ref h₁.objs.size))) (Ne.symm hTe)).trans (Heap.get?_push_size h₁ rfl)
  refine h _ h₁.objs.size _ _ ?_ (by rw [hs₁.1]; exact Nat.le_refl _) (by rw [Heap.size_after_update, Heap.size_push]; exact Nat.lt_succ_self _) hT₃ rfl (by simp only [List.size_toArray, List.length_append, List.length_cons, List.length_nil] <;> omega) ⟨_, he₃, Obj.cls_mapFields _ _, hd₃⟩
  exact ((kp_slots hs₁ fun _ q => q).trans (.push _)).trans (.update (.head _))

theorem exc_note {e : Addr} {c : Exn} {L : Addr} {outer : List Env} {Q : Unit → Shared → Prop} {E : Value → Shared → Prop} (hfr : frs A = env :: outer) (hf : env.frame = some L) (S : Stt G A env ns θ X s.heap ρ μ) (x : ExcAt G hs θ X s.heap e c)
    (h : ∀ X' h' W, Kp W (FL A) s.heap h' → (∀ a ∈ W, Loose G hs θ X a) → Grow G s.heap X h' X' → Stt G A env ns θ X' h' ρ μ → ExcTr G hs θ X' h' e c → Q () { s with heap := h' }) : wpAny G.M A (noteFrame (.ref e) env) Q E s := by
  obtain ⟨le, oe, vs, he, hc, hd, ht⟩ := x
  have heo := fields_off S.inv S.eo he hd
  unfold noteFrame
  simp only [hf]
  have ge : ∀ {h' : Heap} {T : Addr}, s.heap.objs.size ≤ h'.objs.size → s.heap.objs.size ≤ T → T < h'.objs.size → Grow G s.heap X h' (T :: X) := fun hz hT hlt => ⟨fun _ q => .tail _ q, fun c q => (List.mem_cons.mp q).elim (fun e => .inr (e ▸ hT)) .inl,
    fun c q => (List.mem_cons.mp q).elim (fun e => e ▸ hlt) fun q => Nat.lt_of_lt_of_le (S.own.lt c q) hz, fun c q => (List.mem_cons.mp q).elim (fun e => e ▸ base_none S.inv hT) (S.own.new c)⟩
  have lT : ∀ {T : Addr}, s.heap.objs.size ≤ T → hs.objs.size ≤ s.heap.objs.size → Loose G hs θ (T :: X) T := fun hT hz => ⟨.head _, Nat.le_trans hz hT, fun q => absurd (S.own.lt _ (S.own.inX _ (.inl q))) (Nat.not_lt.mpr hT), fun q => absurd (S.own.lt _ (S.own.inX _ (.inr (.inl q)))) (Nat.not_lt.mpr hT)⟩
  have hsz : hs.objs.size ≤ s.heap.objs.size := Nat.le_of_lt (Nat.lt_of_le_of_lt le.2.1 (Heap.lt_size he))
  rcases ht with h1 | ⟨T, oT, ts, h1, lT', hTe, hT, hdT, h3⟩
  · refine wpAny_bind (wpAny_field he hd h1 ?_)
    rw [if_neg (by decide)]
    have hs1 := (Array.getElem?_eq_some_iff.mp h1).1
    refine entry_own hfr hf S.inv he hd hs1 heo.1 fun h' T oT ts kp hT hlt g1 g2 g3 ⟨oe', g4, g5, g6⟩ => ?_
    have S' := S.move kp (fun a ha => by rw [List.mem_singleton.mp ha]; exact ⟨le.1, le.2.2.1, le.2.2.2, heo⟩) (ge kp.1 hT hlt)
    exact h _ h' [e] kp (fun a ha => by rw [List.mem_singleton.mp ha]; exact le) (ge kp.1 hT hlt) S' ⟨⟨.tail _ le.1, le.2⟩, oe', _, T, oT, ts, g4, g5.trans hc, g6, by simp [hs1], lT hT hsz, fun q => absurd (Heap.lt_size he) (Nat.not_lt.mpr (q ▸ hT)), g1, g2, g3⟩
  · refine wpAny_bind (wpAny_field he hd h1 ?_)
    rw [if_pos (show (Value.ref T != Value.none) = true from by simp)]
    refine wpAny_bind (wpAny_field hT hdT (Array.getElem?_eq_getElem h3) ?_)
    have hTo := fields_off S.inv S.eo hT hdT
    split
    · exact wpAny_pure (h X s.heap [] .refl (fun _ q => nomatch q) (.same S.own (Nat.le_refl _)) S ⟨le, oe, vs, T, oT, ts, he, hc, hd, h1, lT', hTe, hT, hdT, h3⟩)
    · refine wpAny_bind (wpAny_setField hT hdT h3 ?_)
      have k0 : Kp [T] (FL A) s.heap (s.heap.update T (Obj.mapFields (·.setIfInBounds 3 Value.none))) := .update (.head _)
      have S0 := S.move k0 (fun a ha => by rw [List.mem_singleton.mp ha]; exact ⟨lT'.1, lT'.2.2.1, lT'.2.2.2, hTo⟩) (.same S.own k0.1)
      have he' : (s.heap.update T (Obj.mapFields (·.setIfInBounds 3 Value.none))).get? e = some oe := (Heap.get?_update_other _ _ hTe).trans he
      have hs1 := (Array.getElem?_eq_some_iff.mp h1).1
      refine entry_own hfr hf S0.inv he' hd hs1 heo.1 fun h' T₂ oT₂ ts₂ kp hT₂ hlt g1 g2 g3 ⟨oe', g4, g5, g6⟩ => ?_
      have hT₂' : s.heap.objs.size ≤ T₂ := by
        have := k0.1
        exact Nat.le_trans this hT₂
      have kk : Kp [e, T] (FL A) s.heap h' := (k0.mono (fun c q => .inl (.tail _ q)) fun _ q => .inl q).trans (kp.mono (fun c q => .inl (by rw [List.mem_singleton.mp q]; exact .head _)) fun _ q => .inl q)
      have gr := ge kk.1 hT₂' hlt
      have S' := S.move kk (fun a ha => by
        rcases List.mem_cons.mp ha with rfl | ha
        · exact ⟨le.1, le.2.2.1, le.2.2.2, heo⟩
        · rw [List.mem_singleton.mp ha]; exact ⟨lT'.1, lT'.2.2.1, lT'.2.2.2, hTo⟩) gr
      refine h _ h' [e, T] kk (fun a ha => ?_) gr S' ⟨⟨.tail _ le.1, le.2⟩, oe', _, T₂, oT₂, ts₂, g4, g5.trans hc, g6, by simp [hs1], lT hT₂' hsz, fun q => absurd (Heap.lt_size he) (Nat.not_lt.mpr (q ▸ hT₂')), g1, g2, g3⟩
      rcases List.mem_cons.mp ha with rfl | ha
      · exact le
      · rw [List.mem_singleton.mp ha]; exact lT'

theorem exc_flight {e : Addr} {c : Exn} {fr : Option Addr} {Q : Unit → Shared → Prop} {E : Value → Shared → Prop} (S : Stt G A env ns θ X s.heap ρ μ) (x : ExcTr G hs θ X s.heap e c)
    (h : ∀ h' W, Kp W (FL A) s.heap h' → (∀ a ∈ W, Loose G hs θ X a) → Stt G A env ns θ X h' ρ μ → ExcTr G hs θ X h' e c → Q () { s with heap := h' }) : wpAny G.M A (setFlight (.ref e) fr) Q E s := by
  obtain ⟨le, oe, vs, T, oT, ts, he, hc, hd, h1, lT, hTe, hT, hdT, h3⟩ := x
  have hTo := fields_off S.inv S.eo hT hdT
  unfold setFlight
  refine wpAny_bind (wpAny_field he hd h1 ?_)
  rw [if_pos (show (Value.ref T != Value.none) = true from by simp)]
  refine wpAny_setField hT hdT h3 ?_
  have k0 : Kp [T] (FL A) s.heap (s.heap.update T (Obj.mapFields (·.setIfInBounds 3 (fr.elim .none fun f => rawInt f)))) := .update (.head _)
  have S0 := S.move k0 (fun a ha => by rw [List.mem_singleton.mp ha]; exact ⟨lT.1, lT.2.2.1, lT.2.2.2, hTo⟩) (.same S.own k0.1)
  have hd' := Obj.data_mapFields hdT (·.setIfInBounds 3 (fr.elim Value.none fun f => rawInt f))
  exact h _ [T] k0 (fun a ha => by rw [List.mem_singleton.mp ha]; exact lT) S0 ⟨le, oe, vs, T, _, _, (Heap.get?_update_other _ _ hTe).trans he, hc, hd, h1, lT, hTe, Heap.get?_update_self _ hT (Obj.isFreed_of_fields hd'), hd', by simpa using h3⟩
end
end Mine
namespace Mine
open PySem PySem.W PySem.Calls PyProof.Rows

/-! ## the heap never shrinks -/
theorem runs_size {M : Model} {Γ : Ctx} {p : Pos} {t : Sem Fin} {fs : List Frame} {s : Shared} {e : End} {s' : Shared} (h : Runs M Γ p t fs s e s') : s.heap.objs.size ≤ s'.heap.objs.size := by
  induction h with
  | update _ _ ih => simpa [Heap.size_after_update] using ih
  | alloc _ ih => exact Nat.le_trans (by rw [Heap.size_push]; exact Nat.le_succ _) ih
  | call _ _ a b => exact Nat.le_trans a b
  | resumeFresh _ _ _ _ a b => exact Nat.le_trans a b
  | resumeSuspended _ _ _ _ a b => exact Nat.le_trans a b
  | segRet _ _ a b => exact Nat.le_trans a b
  | segGen _ _ a b => exact Nat.le_trans a b
  | segSuspGen _ _ _ _ a b => exact Nat.le_trans a b
  | _ => first | exact Nat.le_refl _ | assumption

theorem wakes_size {M : Model} {Γ : Ctx} {p : Pos} {g : Nat} {r : Resume} {s : Shared} {res : GenResult} {s' : Shared} (h : Wakes M Γ p g r s res s') : s.heap.objs.size ≤ s'.heap.objs.size := by
  unfold Wakes at h
  split at h
  · exact h.elim
  · split at h
    · obtain ⟨e₁, s₁, a, _, _, rfl⟩ := h; have z := runs_size a; exact z
    · rw [h.2]; exact Nat.le_refl _
    · rw [h.2]; exact Nat.le_refl _
  · obtain ⟨e₁, s₁, a, _, _, rfl⟩ := h; have z := runs_size a; exact z
  · rw [h.2]; exact Nat.le_refl _
  · rw [h.2]; exact Nat.le_refl _

theorem wp_size {α : Type} {M : Model} {Γ : Ctx} {n : Nat} : ∀ (t : Sem α) {Q : α → Pos → Shared → Prop} {E : Value → Pos → Shared → Prop} {p : Pos} {s : Shared}, n ≤ s.heap.objs.size → Sem.wp M Γ t Q E p s →
    Sem.wp M Γ t (fun a p s' => Q a p s' ∧ n ≤ s'.heap.objs.size) (fun a p s' => E a p s' ∧ n ≤ s'.heap.objs.size) p s := by
  intro t
  induction t with
  | pure a => intro Q E p s hn h; simp only [Sem.wp] at h ⊢; exact ⟨h, hn⟩
  | raise a => intro Q E p s hn h; simp only [Sem.wp] at h ⊢; exact ⟨h, hn⟩
  | unsupported _ => intro Q E p s hn h; simp only [Sem.wp] at h
  | finish _ => intro Q E p s hn h; simp only [Sem.wp] at h
  | rule _ k ih => intro Q E p s hn h; simp only [Sem.wp] at h ⊢; exact ih _ hn h
  | «at» _ k ih => intro Q E p s hn h; simp only [Sem.wp] at h ⊢; exact ih _ hn h
  | load _ _ k ih => intro Q E p s hn h; simp only [Sem.wp] at h ⊢; obtain ⟨o, a, b⟩ := h; exact ⟨o, a, ih _ hn b⟩
  | update _ _ _ k ih => intro Q E p s hn h; simp only [Sem.wp] at h ⊢; exact ⟨h.1, ih _ (by rw [Heap.size_after_update]; exact hn) h.2⟩
  | loadIfAlive _ k ih => intro Q E p s hn h; simp only [Sem.wp] at h ⊢; exact ih _ hn h
  | point _ k ih => intro Q E p s hn h; simp only [Sem.wp] at h ⊢; exact ih _ hn h
  | alloc _ k ih => intro Q E p s hn h; simp only [Sem.wp] at h ⊢; exact ih _ (by rw [Heap.size_push]; exact Nat.le_succ_of_le hn) h
  | fresh k ih => intro Q E p s hn h; simp only [Sem.wp] at h ⊢; exact ih _ hn h
  | ask k ih => intro Q E p s hn h; simp only [Sem.wp] at h ⊢; exact ih _ hn h
  | choose _ _ k ih => intro Q E p s hn h; simp only [Sem.wp] at h ⊢; exact ⟨h.1, ih _ hn h.2⟩
  | os _ _ k ih => intro Q E p s hn h; simp only [Sem.wp] at h ⊢; exact ih _ hn h
  | call _ _ _ _ k ih =>
    intro Q E p s hn h; simp only [Sem.wp] at h ⊢
    obtain ⟨r, s', a, b⟩ := h
    exact ⟨r, s', a, ih _ (Nat.le_trans hn (runs_size a)) b⟩
  | handled _ k ih => intro Q E p s hn h; simp only [Sem.wp] at h ⊢; exact ih _ hn h
  | genState _ k ih => intro Q E p s hn h; simp only [Sem.wp] at h ⊢; obtain ⟨o, a, b⟩ := h; exact ⟨o, a, ih _ hn b⟩
  | newGen _ k ih => intro Q E p s hn h; simp only [Sem.wp] at h ⊢; exact ih _ hn h
  | resume _ _ _ k ih =>
    intro Q E p s hn h; simp only [Sem.wp] at h ⊢
    obtain ⟨r, s', a, b⟩ := h
    exact ⟨r, s', a, ih _ (Nat.le_trans hn (wakes_size a)) b⟩
  | stack k ih => intro Q E p s hn h; simp only [Sem.wp] at h ⊢; exact ih _ hn h
  | thread k ih => intro Q E p s hn h; simp only [Sem.wp] at h ⊢; exact ih _ hn h
  | _ => intro Q E p s hn h; simp only [Sem.wp] at h

/-- what a proved step does: besides, the heap has not shrunk -/
theorem wpAny_size {α : Type} {M : Model} {A : Around} {t : Sem α} {Q : α → Shared → Prop} {E : Value → Shared → Prop} {s : Shared}
    (h : wpAny M A t (fun a s' => s.heap.objs.size ≤ s'.heap.objs.size → Q a s') (fun a s' => s.heap.objs.size ≤ s'.heap.objs.size → E a s') s) : wpAny M A t Q E s := fun Γ p hΓ =>
  Sem.wp_mono M Γ t (fun _ _ _ x => x.1 x.2) (fun _ _ _ x => x.1 x.2) p s (wp_size t (Nat.le_refl _) (h Γ p hΓ))
end Mine
namespace Mine
open PySem PySem.W PySem.Calls PyProof.Rows

section
variable {G : Gr} {b : Nat} {fs : Fs} {ns : List Str} {A : Around} {env : Env} {θ X θ' X' θ'' X'' : List Addr} {h h' h'' hs : Heap} {ρ ρ' : List (Option D)} {μ : List MO} {s s' : Shared} {W : List Addr}

/-! ## what a statement may change: the block's own names, besides -/
structure ExtS (G : Gr) (A : Around) (env : Env) (θ X : List Addr) (h : Heap) (θ' X' : List Addr) (h' : Heap) : Prop where
  kp : Kp (envA env ++ (θ ++ G.tA)) (FL A) h h'
  new : ∃ nw, θ' = θ ++ nw ∧ ∀ a ∈ nw, h.objs.size ≤ a
  sup : ∀ b ∈ X, b ∈ X'
  sub : ∀ b ∈ X', b ∈ X ∨ h.objs.size ≤ b
theorem Ext.toS (e : Ext G A θ X h θ' X' h') : ExtS G A env θ X h θ' X' h' := ⟨e.kp.mono (fun _ q => .inl (List.mem_append_right _ q)) (fun _ q => .inl q), e.new, e.sup, e.sub⟩
theorem ExtS.refl : ExtS G A env θ X h θ X h := Ext.refl.toS
theorem ExtS.trans (a : ExtS G A env θ X h θ' X' h') (b : ExtS G A env θ' X' h' θ'' X'' h'') : ExtS G A env θ X h θ'' X'' h'' := by
  obtain ⟨k, ⟨nw, rfl, l⟩, e, f⟩ := a
  obtain ⟨k', ⟨nw', rfl, l'⟩, e', f'⟩ := b
  refine ⟨k.trans' k' (fun b q => ?_) fun _ q => .inl q, ⟨nw ++ nw', by simp, fun a q => ?_⟩, fun b q => e' b (e b q), fun b q => ?_⟩
  · simp only [List.mem_append] at q ⊢
    rcases q with q | (q | q) | q
    · exact .inl (.inl q)
    · exact .inl (.inr (.inl q))
    · exact .inr (l b q)
    · exact .inl (.inr (.inr q))
  · rcases List.mem_append.mp q with q | q
    · exact l a q
    · exact Nat.le_trans k.1 (l' a q)
  · rcases f' b q with q | q
    · exact f b q
    · exact .inr (Nat.le_trans k.1 q)
theorem ExtS.th (a : ExtS G A env θ X h θ' X' h') : ∀ (i : Nat) (b : Addr), θ[i]? = some b → θ'[i]? = some b := by
  obtain ⟨_, ⟨nw, rfl, _⟩, _, _⟩ := a
  intro i b e
  rw [List.getElem?_append_left (List.getElem?_eq_some_iff.mp e).1]; exact e
theorem Rep.extS {v : Value} {d : D} (R : Rep G h θ X v d) (S : Stt G A env ns θ X h ρ μ) (e : ExtS G A env θ X h θ' X' h') : Rep G h' θ' X' v d :=
  R.kp e.kp (fun b q => (List.mem_append.mp q).elim (S.eo.inX b) fun q => S.own.inX b ((List.mem_append.mp q).elim .inl fun z => .inr (.inl z))) S.own.FLX e.th e.sub

inductive PostSn (G : Gr) (A : Around) (env : Env) (ns : List Str) (θ X : List Addr) (s : Shared) (Nx : List (Option D) → List MO → Prop) (s' : Shared) : Prop
  | mk (θ' X' ρ' μ') : ExtS G A env θ X s.heap θ' X' s'.heap → Stt G A env ns θ' X' s'.heap ρ' μ' → Nx ρ' μ' → Rest s s' → PostSn G A env ns θ X s Nx s'
inductive PostSr (G : Gr) (A : Around) (env : Env) (ns : List Str) (θ X : List Addr) (s : Shared) (Rt : D → List MO → Prop) (v : Value) (s' : Shared) : Prop
  | mk (θ' X' ρ' d μ') : ExtS G A env θ X s.heap θ' X' s'.heap → Stt G A env ns θ' X' s'.heap ρ' μ' → Rep G s'.heap θ' X' v d → Rt d μ' → Rest s s' → PostSr G A env ns θ X s Rt v s'
def PostS (G : Gr) (A : Around) (env : Env) (ns : List Str) (θ X : List Addr) (s : Shared) (Nx : List (Option D) → List MO → Prop) (Rt : D → List MO → Prop) (f : Flow) (s' : Shared) : Prop := match f with
  | .next => PostSn G A env ns θ X s Nx s'
  | .ret v => PostSr G A env ns θ X s Rt v s'
  | _ => False
inductive PostSX (G : Gr) (A : Around) (env : Env) (ns : List Str) (θ X : List Addr) (s : Shared) (Ex : Exn → List MO → Prop) (v : Value) (s' : Shared) : Prop
  | mk (θ' X' ρ' e c μ') : v = .ref e → ExtS G A env θ X s.heap θ' X' s'.heap → Stt G A env ns θ' X' s'.heap ρ' μ' → ExcAt G s.heap θ' X' s'.heap e c → Ex c μ' → Rest s s' → PostSX G A env ns θ X s Ex v s'

/-- the block's own frame lies on top -/
def InFr (A : Around) (env : Env) : Prop := (∃ outer, frs A = env :: outer) ∧ ∃ L, env.frame = some L
/-- the statement x, in a block fs, does what P tells -/
def SV (G : Gr) (b : Nat) (fs : Fs) (ns : List Str) (x : Stmt) (P : PS) : Prop :=
  ∀ (A : Around) (env : Env) (θ X : List Addr) (s : Shared) ρ μ Nx Rt Ex, AOk A b → fs.ok env → InFr A env → Stt G A env ns θ X s.heap ρ μ → P ρ μ Nx Rt Ex →
    wpAny G.M A (exec x env) (PostS G A env ns θ X s Nx Rt) (PostSX G A env ns θ X s Ex) s
def SB (G : Gr) (b : Nat) (fs : Fs) (ns : List Str) (x : List Stmt) (P : PS) : Prop :=
  ∀ (A : Around) (env : Env) (θ X : List Addr) (s : Shared) ρ μ Nx Rt Ex, AOk A b → fs.ok env → InFr A env → Stt G A env ns θ X s.heap ρ μ → P ρ μ Nx Rt Ex →
    wpAny G.M A (execs x env) (PostS G A env ns θ X s Nx Rt) (PostSX G A env ns θ X s Ex) s

theorem PostX.toS {Ex : Exn → List MO → Prop} {v : Value} (p : PostX G A env ns ρ θ X s Ex v s') : PostSX G A env ns θ X s Ex v s' := by
  obtain ⟨θ', X', e, c, μ', rfl, e1, S, x, q, r⟩ := p
  exact ⟨θ', X', ρ, e, c, μ', rfl, e1.toS, S, x, q, r⟩
theorem PostS.rebase {Nx : List (Option D) → List MO → Prop} {Rt : D → List MO → Prop} {f : Flow} {s₁ : Shared} (e : ExtS G A env θ X s.heap θ' X' s₁.heap) (r : Rest s s₁) (p : PostS G A env ns θ' X' s₁ Nx Rt f s') : PostS G A env ns θ X s Nx Rt f s' := by
  cases f with
  | next => obtain ⟨θ2, X2, ρ', μ', e2, S, q, r2⟩ := p; exact ⟨θ2, X2, ρ', μ', e.trans e2, S, q, r.trans r2⟩
  | ret v => obtain ⟨θ2, X2, ρ', d, μ', e2, S, R, q, r2⟩ := p; exact ⟨θ2, X2, ρ', d, μ', e.trans e2, S, R, q, r.trans r2⟩
  | brk => exact p.elim
  | cont => exact p.elim
theorem PostSX.rebase {Ex : Exn → List MO → Prop} {v : Value} {s₁ : Shared} (e : ExtS G A env θ X s.heap θ' X' s₁.heap) (r : Rest s s₁) (p : PostSX G A env ns θ' X' s₁ Ex v s') : PostSX G A env ns θ X s Ex v s' := by
  obtain ⟨θ2, X2, ρ', a, c, μ', ev, e2, S, R, q, r2⟩ := p
  exact ⟨θ2, X2, ρ', a, c, μ', ev, e.trans e2, S, R.le e.kp.1, q, r.trans r2⟩

def wSkip : PS := fun ρ μ Nx _ _ => Nx ρ μ
def wSeq (P R : PS) : PS := fun ρ μ Nx Rt Ex => P ρ μ (fun ρ' μ' => R ρ' μ' Nx Rt Ex) Rt Ex
theorem SB_nil : SB G b fs ns [] wSkip := fun A env θ X s ρ μ Nx Rt Ex hA he hF S p => wpAny_execs_nil ⟨θ, X, ρ, μ, .refl, S, p, .refl⟩
theorem SB_cons {x : Stmt} {r : List Stmt} {P R : PS} (hx : SV G b fs ns x P) (hr : SB G b fs ns r R) : SB G b fs ns (x :: r) (wSeq P R) := fun A env θ X s ρ μ Nx Rt Ex hA he hF S p =>
  wpAny_execs_cons (wpAny_mono (hx A env θ X s ρ μ _ Rt Ex hA he hF S p) (fun f s₁ h₁ => by
    cases f with
    | next =>
      obtain ⟨θ₁, X₁, ρ₁, μ₁, e₁, S₁, q₁, r₁⟩ := h₁
      exact wpAny_mono (hr A env θ₁ X₁ s₁ ρ₁ μ₁ Nx Rt Ex hA he hF S₁ q₁) (fun _ _ q => q.rebase e₁ r₁) fun _ _ q => q.rebase e₁ r₁
    | _ => exact h₁) fun _ _ q => q)

def wRet (P : PE) : PS := fun ρ μ _ Rt Ex => P ρ μ Rt Ex
theorem SV_ret {x : Expr} {P : PE} {pos} (hx : EV G b fs ns x P) : SV G b fs ns (.Return (some x) pos) (wRet P) := fun A env θ X s ρ μ Nx Rt Ex hA he hF S p =>
  wpAny_Return_some (hx.go hA he S p (fun v s₁ θ₁ X₁ d₁ μ₁ e₁ S₁ R₁ q₁ r₁ => ⟨θ₁, X₁, ρ, d₁, μ₁, e₁.toS, S₁, R₁, q₁, r₁⟩) fun _ _ q => q.toS)
def wExp (P : PE) : PS := fun ρ μ Nx _ Ex => P ρ μ (fun _ μ' => Nx ρ μ') Ex
theorem SV_exp {x : Expr} {P : PE} {pos} (hx : EV G b fs ns x P) (hs : ∀ env, fs.ok env → swapsWith x none pos.line env = pure false) : SV G b fs ns (.Expr x pos) (wExp P) := fun A env θ X s ρ μ Nx Rt Ex hA he hF S p =>
  wpAny_Expr_any (hx.go hA he S p (fun v s₁ θ₁ X₁ d₁ μ₁ e₁ S₁ R₁ q₁ r₁ => ⟨θ₁, X₁, ρ, μ₁, e₁.toS, S₁, q₁, r₁⟩) fun _ _ q => q.toS) (by unfold interactive; rw [S.eo.kind]; rfl) (hs env he)
def wIf (T : PT) (P R : PS) : PS := fun ρ μ Nx Rt Ex => T ρ μ (fun c μ' => br c (P ρ μ' Nx Rt Ex) (R ρ μ' Nx Rt Ex)) Ex
theorem SV_if {t : Expr} {x y : List Stmt} {T : PT} {P R : PS} {pos} (ht : ET G b fs ns t T) (hx : SB G b fs ns x P) (hy : SB G b fs ns y R) : SV G b fs ns (.If t x y pos) (wIf T P R) := fun A env θ X s ρ μ Nx Rt Ex hA he hF S p =>
  wpAny_If (ht.go hA he S p (fun c s₁ θ₁ X₁ μ₁ e₁ S₁ q₁ r₁ => by
    cases c with
    | true => exact wpAny_mono (hx A env θ₁ X₁ s₁ ρ μ₁ Nx Rt Ex hA he hF S₁ q₁) (fun _ _ q => q.rebase e₁.toS r₁) fun _ _ q => q.rebase e₁.toS r₁
    | false => exact wpAny_mono (hy A env θ₁ X₁ s₁ ρ μ₁ Nx Rt Ex hA he hF S₁ q₁) (fun _ _ q => q.rebase e₁.toS r₁) fun _ _ q => q.rebase e₁.toS r₁) fun _ _ q => q.toS)

/-! ## a name stored -/
theorem Stt.store {x : Str} {v : Value} {d : D} {i : Nat} {a : Addr} (S : Stt G A env ns θ X h ρ μ) (hnd : ns.Nodup) (hi : ns[i]? = some x) (R : Rep G h θ X v d) (ha : a ∈ envA env) (sb : Heap.SameBut a h h') (V : VarAt h' env x v)
    (hns : ∃ m', h'.Ns env.locals m') (hc : ∀ p ∈ env.cells, ∃ v, h'.IsCell p.2 v) (oth : ∀ y w, y ≠ x → VarAt h env y w → VarAt h' env y w) : Stt G A env ns θ X h' (ρ.set i (some d)) μ ∧ ExtS G A env θ X h θ X h' := by
  have aX := S.eo.inX a ha
  have aO := S.eo.off a ha
  have k : Kp [a] [] h h' := .sameBut sb (.head _)
  have kF : Kp [a] (FL A) h h' := k.mono (fun _ q => .inl q) fun _ q => nomatch q
  have hW : ∀ b ∈ [a], b ∈ X := fun b q => by rw [List.mem_singleton.mp q]; exact aX
  have I : Inv G A X h' := by
    refine ⟨fun b o e => ?_, fun q hq => ?_, S.inv.fs, fun e he => ?_⟩
    · refine k.get (S.inv.base b o e) (fun q => ?_) fun q => nomatch q
      rw [List.mem_singleton.mp q, S.own.new a aX] at e; cases e
    · exact (S.inv.tabs q hq).mono (fun o e => k.get e (fun z => aO.2 (List.mem_singleton.mp z ▸ List.mem_map_of_mem hq)) fun q => nomatch q) fun c s h1 h2 => ⟨codeRec_kp k (fun q => h2 (hW _ q)) h1, h2⟩
    · obtain ⟨h1, L, o, es, n, h2, h3, h4, h5⟩ := S.inv.frames e he
      by_cases hL : L = a
      · subst hL
        rcases List.mem_cons.mp ha with q | q
        · subst q
          obtain ⟨m', o', es', ep', e1, e2, _⟩ := hns
          exact ⟨h1, _, o', es', ep', h2, h3, e1, e2⟩
        · obtain ⟨p, hp, rfl⟩ := List.mem_map.mp q
          exact absurd (List.mem_filterMap.mpr ⟨e, he, h2⟩) (S.eo.nfl p hp)
      · exact ⟨h1, L, o, es, n, h2, h3, k.get h4 (fun q => hL (List.mem_singleton.mp q)) (fun q => nomatch q), h5⟩
  refine ⟨⟨I, S.own.kp k.1, S.muts.kp k hW (fun _ q => nomatch q) (fun _ q => .inl q) (fun b hb => ⟨fun q => aO.1 (by rw [← List.mem_singleton.mp q]; exact hb), fun q => nomatch q⟩),
    ⟨S.eo.kind, S.eo.glob, hns, hc, S.eo.inX, S.eo.off, S.eo.nd, S.eo.nfl⟩, fun j d' e => ?_⟩, (kF.mono (fun b q => .inl (by rw [List.mem_singleton.mp q]; exact List.mem_append_left _ ha)) fun _ q => .inl q), ⟨[], by simp, fun _ q => nomatch q⟩, fun _ q => q, fun _ q => .inl q⟩
  have up : ∀ {v : Value} {d : D}, Rep G h θ X v d → Rep G h' θ X v d := fun R => R.kp k hW (fun _ q => nomatch q) (fun _ _ e => e) fun _ q => .inl q
  by_cases hj : i = j
  · subst hj
    have hl : i < ρ.length := by
      have := (List.getElem?_eq_some_iff.mp e).1
      rwa [List.length_set] at this
    rw [List.getElem?_set_self hl] at e
    cases e
    exact ⟨x, v, hi, V, up R⟩
  · rw [List.getElem?_set_ne hj] at e
    obtain ⟨y, w, e1, V', R'⟩ := S.var j d' e
    refine ⟨y, w, e1, oth y w (fun q => hj ?_) V', up R'⟩
    obtain ⟨b1, c1⟩ := List.getElem?_eq_some_iff.mp hi
    obtain ⟨b2, c2⟩ := List.getElem?_eq_some_iff.mp e1
    exact (List.getElem_inj hnd).mp (c1.trans (q.symm.trans c2.symm))

/-- the kind of a name that may be stored: a local one, or a cell's -/
def locK (fs : Fs) (x : Str) : Prop := fs.sc.names.lookup x = some .local
def celK (fs : Fs) (x : Str) : Prop := fs.sc.names.lookup x = some .cell
theorem storeL {x : Str} {v : Value} {d : D} {i : Nat} {Q : Unit → Shared → Prop} {E : Value → Shared → Prop} (hnd : ns.Nodup) (hi : ns[i]? = some x) (hk : locK fs x) (he : fs.ok env) (S : Stt G A env ns θ X s.heap ρ μ) (R : Rep G s.heap θ X v d)
    (h : ∀ s', ExtS G A env θ X s.heap θ X s'.heap → Stt G A env ns θ X s'.heap (ρ.set i (some d)) μ → Rest s s' → Kp [env.locals] [] s.heap s'.heap → Q () s') : wpAny G.M A (storeName env x v) Q E s := by
  obtain ⟨m, hm⟩ := S.eo.ns
  have hk' : env.kindOf x = some .local := by unfold Env.kindOf; rw [he.1]; exact hk
  refine wpAny_storeName_local hk' hm (fun h' hn sb => ?_) (by rw [S.eo.kind]; rfl)
  have hL : ∀ p ∈ env.cells, p.2 ≠ env.locals := fun p hp q => (List.nodup_cons.mp S.eo.nd).1 (q ▸ List.mem_map_of_mem hp)
  obtain ⟨S', e⟩ := S.store hnd hi R (.head _) sb (.inl ⟨hk', _, hn, by simp⟩) ⟨_, hn⟩ (fun p hp => by
    obtain ⟨w, hw⟩ := S.eo.cells p hp
    exact ⟨w, hw.sameBut sb (hL p hp)⟩) fun y w hy V => by
      rcases V with ⟨h1, m', h2, h3⟩ | ⟨h1, c, h2, h3⟩
      · exact .inl ⟨h1, _, hn, by rw [if_neg hy, hm.agree h2]; exact h3⟩
      · exact .inr ⟨h1, c, h2, h3.sameBut sb (hL (y, c) (lookup_mem h2))⟩
  exact h _ e S' rfl (.sameBut sb (.head _))
theorem storeC {x : Str} {v : Value} {d : D} {i : Nat} {Q : Unit → Shared → Prop} {E : Value → Shared → Prop} (hnd : ns.Nodup) (hi : ns[i]? = some x) (hk : celK fs x) (hl : ∃ c, env.cells.lookup x = some c) (he : fs.ok env) (S : Stt G A env ns θ X s.heap ρ μ) (R : Rep G s.heap θ X v d)
    (h : ∀ s', ExtS G A env θ X s.heap θ X s'.heap → Stt G A env ns θ X s'.heap (ρ.set i (some d)) μ → Rest s s' → Q () s') : wpAny G.M A (storeName env x v) Q E s := by
  obtain ⟨m, hm⟩ := S.eo.ns
  obtain ⟨c, hc⟩ := hl
  have hk' : env.kindOf x = some .cell := by unfold Env.kindOf; rw [he.1]; exact hk
  have hmem := lookup_mem hc
  obtain ⟨v₀, hv₀⟩ := S.eo.cells _ hmem
  refine wpAny_storeName_cell S.eo.kind hk' hc hv₀ (fun h' hn sb => ?_)
  have hL : env.locals ≠ c := fun q => (List.nodup_cons.mp S.eo.nd).1 (q ▸ List.mem_map.mpr ⟨(x, c), hmem, rfl⟩)
  have hcc : ∀ y c', (y, c') ∈ env.cells → c' = c → y = x := fun y c' hy q => by
    subst q
    obtain ⟨j1, b1, e1⟩ := List.getElem_of_mem hy
    obtain ⟨j2, b2, e2⟩ := List.getElem_of_mem hmem
    have := (List.getElem_inj (h₀ := by simpa using b1) (h₁ := by simpa using b2) (List.nodup_cons.mp S.eo.nd).2).mp (by simp [e1, e2])
    subst this
    rw [e1] at e2; cases e2; rfl
  obtain ⟨S', e⟩ := S.store hnd hi R (.tail _ (List.mem_map.mpr ⟨(x, c), hmem, rfl⟩)) sb (.inr ⟨.inl hk', c, hc, hn⟩) ⟨m, hm.sameBut sb hL⟩ (fun p hp => by
    by_cases q : p.2 = c
    · rw [q]; exact ⟨_, hn⟩
    · obtain ⟨w, hw⟩ := S.eo.cells p hp
      exact ⟨w, hw.sameBut sb q⟩) fun y w hy V => by
      rcases V with ⟨h1, m', h2, h3⟩ | ⟨h1, c', h2, h3⟩
      · exact .inl ⟨h1, m', h2.sameBut sb hL, h3⟩
      · exact .inr ⟨h1, c', h2, h3.sameBut sb fun q => hy (hcc y c' (lookup_mem h2) q)⟩
  exact h _ e S' rfl

/-- what is kept by a store -/
abbrev Keep := Around → Env → List Addr → List Addr → Heap → Heap → Prop
def KV (G : Gr) : Keep := fun A env θ X h h' => ExtS G A env θ X h θ X h'
def KL : Keep := fun _ env _ _ h h' => Kp [env.locals] [] h h'
/-- f stores a value at the i-th name -/
def StF (K : Keep) (G : Gr) (A : Around) (env : Env) (ns : List Str) (f : Value → Sem Unit) (i : Nat) : Prop := ∀ {θ X : List Addr} {s : Shared} {ρ : List (Option D)} {μ : List MO} {v : Value} {d : D} {Q : Unit → Shared → Prop} {E : Value → Shared → Prop},
  Stt G A env ns θ X s.heap ρ μ → Rep G s.heap θ X v d → (∀ s', K A env θ X s.heap s'.heap → Stt G A env ns θ X s'.heap (ρ.set i (some d)) μ → Rest s s' → Q () s') → wpAny G.M A (f v) Q E s
/-- storing works for this name in every block like this -/
def StoreG (K : Keep) (G : Gr) (fs : Fs) (ns : List Str) (i : Nat) (x : Str) : Prop := ∀ {A : Around} {env : Env}, fs.ok env → StF K G A env ns (storeName env x) i
abbrev StoreOk (G : Gr) := StoreG (KV G) G
theorem StoreOk.loc {i : Nat} {x : Str} (hnd : ns.Nodup) (hi : ns[i]? = some x) (hk : locK fs x) : StoreOk G fs ns i x := fun he _ _ _ _ _ _ _ _ _ S R h => storeL hnd hi hk he S R fun s' a b c _ => h s' a b c
theorem StoreL.loc {i : Nat} {x : Str} (hnd : ns.Nodup) (hi : ns[i]? = some x) (hk : locK fs x) : StoreG KL G fs ns i x := fun he _ _ _ _ _ _ _ _ _ S R h => storeL hnd hi hk he S R fun s' _ b c a => h s' a b c
theorem StoreOk.cel {i : Nat} {x : Str} (hnd : ns.Nodup) (hi : ns[i]? = some x) (hk : celK fs x) : StoreOk G fs ns i x := fun he _ _ _ _ _ _ _ _ _ S R h => storeC hnd hi hk (he.2.2.2.2 x hk) he S R h

def wSet (i : Nat) (P : PE) : PS := fun ρ μ Nx _ Ex => P ρ μ (fun d μ' => Nx (ρ.set i (some d)) μ') Ex
theorem SV_set {i : Nat} {x : Str} {e : Expr} {P : PE} {p' pos} (hst : StoreOk G fs ns i x) (he : EV G b fs ns e P) (hs : ∀ env, fs.ok env → swapsWith e (some (.Name x p')) pos.line env = pure false) :
    SV G b fs ns (.Assign [.Name x p'] e pos) (wSet i P) := fun A env θ X s ρ μ Nx Rt Ex hA ho hF S p =>
  wpAny_Assign_Name (he.go hA ho S p (fun v s₁ θ₁ X₁ d₁ μ₁ e₁ S₁ R₁ q₁ r₁ => hst ho S₁ R₁ fun s₂ e₂ S₂ r₂ => ⟨θ₁, X₁, _, μ₁, e₁.toS.trans e₂, S₂, q₁, r₁.trans r₂⟩) fun _ _ q => q.toS) (hs env ho)

def wAug (i : Nat) (P : PE) (T : T2) : PS := fun ρ μ Nx _ Ex => need ρ[i]?.join fun d => P ρ μ (fun d' μ' => T μ' d d' fun r => Nx (ρ.set i (some r)) μ') Ex
theorem SV_aug {i : Nat} {x : Str} {e : Expr} {op : Operator} {P : PE} {T : T2} {p' pos} (hst : StoreOk G fs ns i x) (hi : ns[i]? = some x) (he : EV G b fs ns e P) (hm : Op2 G b (inplaceOp op) T) (hc : (x == ("__classdict__" : Str)) = false) :
    SV G b fs ns (.AugAssign (.Name x p') op e pos) (wAug i P T) := fun A env θ X s ρ μ Nx Rt Ex hA ho hF S p => by
  refine need.elim p fun d hd p => ?_
  obtain ⟨y, v, e1, V, R⟩ := S.var i d (Option.join_eq_some_iff.mp hd)
  cases hi.symm.trans e1
  refine wpAny_AugAssign_Name (wpAny_var S.eo.kind V hc (he.go hA ho S p (fun w s₁ θ₁ X₁ d₁ μ₁ e₁ S₁ R₁ q₁ r₁ => ?_) fun _ _ q => q.toS))
  refine wpAny_mono (hm A θ₁ X₁ s₁ μ₁ v w d d₁ _ hA S₁.inv.base S₁.own.lt S₁.muts (R.ext S.own e₁) R₁ q₁) (fun z s₂ h₂ => ?_) fun _ _ f => f.elim
  obtain ⟨dr, Rr, k, q, r₂⟩ := h₂
  exact hst ho (S₁.stays k) Rr fun s₃ e₃ S₃ r₃ => ⟨θ₁, X₁, _, μ₁, (e₁.toS.trans (Ext.stays k).toS).trans e₃, S₃, q, (r₁.trans r₂).trans r₃⟩
end
end Mine
namespace Mine
open PySem PySem.W PySem.Calls PyProof.Rows

section
variable {G : Gr} {b : Nat} {fs : Fs} {ns : List Str} {A : Around} {env : Env} {θ X θ' X' θ'' X'' : List Addr} {h h' h'' hs : Heap} {ρ ρ' : List (Option D)} {μ : List MO} {s s' : Shared} {W : List Addr}

/-! ## exceptions that leave a loop -/
inductive PostST (G : Gr) (A : Around) (env : Env) (ns : List Str) (θ X : List Addr) (s : Shared) (Ex : Exn → List MO → Prop) (v : Value) (s' : Shared) : Prop
  | mk (θ' X' ρ' e c μ') : v = .ref e → ExtS G A env θ X s.heap θ' X' s'.heap → Stt G A env ns θ' X' s'.heap ρ' μ' → ExcTr G s.heap θ' X' s'.heap e c → Ex c μ' → Rest s s' → PostST G A env ns θ X s Ex v s'
theorem extS_loose (e : ExtS G A env θ X h θ' X' h') (k : Kp W (FL A) h' h'') (hW : ∀ a ∈ W, Loose G h θ' X' a) (gr : Grow G h' X' h'' X'') : ExtS G A env θ X h θ' X'' h'' :=
  ⟨e.kp.trans' k (fun a ha => .inr (hW a ha).2.1) (fun _ q => .inl q), e.new, fun a ha => gr.sup a (e.sup a ha), fun a ha => (gr.sub a ha).elim (e.sub a) fun l => .inr (Nat.le_trans e.kp.1 l)⟩
theorem noted (hF : InFr A env) {Ex : Exn → List MO → Prop} {E' : Value → Shared → Prop} {v : Value} (p : PostSX G A env ns θ X s Ex v s') (k : ∀ s'', PostST G A env ns θ X s Ex v s'' → E' v s'') : notedBy G.M A env E' v s' := by
  obtain ⟨θ', X', ρ', e, c, μ', rfl, e1, S, x, q, r⟩ := p
  obtain ⟨⟨outer, h1⟩, L, h2⟩ := hF
  exact exc_note h1 h2 S x fun X'' h'' W kp hW gr S' x' => k _ ⟨θ', X'', ρ', e, c, μ', rfl, extS_loose e1 kp hW gr, S', x', q, r.trans .mkH⟩
theorem cameBack {Ex : Exn → List MO → Prop} {v : Value} (p : PostST G A env ns θ X s Ex v s') : cameBackBy G.M A env (PostSX G A env ns θ X s Ex) v s' := by
  obtain ⟨θ', X', ρ', e, c, μ', rfl, e1, S, x, q, r⟩ := p
  obtain ⟨le, oe, vs, T, oT, ts, he, hc, hd, ht, rest⟩ := id x
  unfold cameBackBy
  refine wpAny_bind (wpAny_field he hd ht ?_)
  rw [if_neg (by simp)]
  exact exc_flight S x fun h'' W kp hW S' x' => ⟨θ', X', ρ', e, c, μ', rfl, extS_loose e1 kp hW (.same S.own kp.1), S', x'.at, q, r.trans .mkH⟩

/-! ## while -/
@[irreducible] def wWhile (T : PT) (P : PS) : PS := fun ρ μ Nx Rt Ex => ∃ I : Nat → List (Option D) → List MO → Prop, (∃ n, I n ρ μ) ∧ ∀ n ρ μ, I n ρ μ → T ρ μ (fun c μ' => br c (P ρ μ' (fun ρ' μ'' => ∃ m, m < n ∧ I m ρ' μ'') Rt Ex) (Nx ρ μ')) Ex
theorem SV_while {t : Expr} {x : List Stmt} {T : PT} {P : PS} {pos} (ht : ET G b fs ns t T) (hx : SB G b fs ns x P) : SV G b fs ns (.While t x [] pos) (wWhile T P) := fun A env θ X s ρ μ Nx Rt Ex hA he hF S p => by
  unfold wWhile at p
  obtain ⟨I, ⟨n, hn⟩, step⟩ := p
  refine wpAny_While (codeAny_whileLoop (fun n => PostSn G A env ns θ X s (I n)) (fun n s₁ h => ?_) n ⟨θ, X, ρ, μ, .refl, S, hn, .refl⟩)
  obtain ⟨θ₁, X₁, ρ₁, μ₁, e₁, S₁, i₁, r₁⟩ := h
  refine wpAny_mono (ht A env θ₁ X₁ s₁ ρ₁ μ₁ _ Ex hA he S₁ (step n ρ₁ μ₁ i₁)) (fun c s₂ h₂ => ?_) fun v s₂ q => noted hF (q.toS.rebase e₁ r₁) fun s₃ q => cameBack q
  obtain ⟨θ₂, X₂, μ₂, e₂, S₂, q₂, r₂⟩ := h₂
  have e12 := e₁.trans e₂.toS
  have r12 := r₁.trans r₂
  cases c with
  | true =>
    refine wpAny_mono (hx A env θ₂ X₂ s₂ ρ₁ μ₂ _ Rt Ex hA he hF S₂ q₂) (fun f s₃ h₃ => ?_) fun v s₃ q => noted hF (q.rebase e12 r12) fun s₃ q => cameBack q
    have h₃' := PostS.rebase e12 r12 h₃
    cases f with
    | next =>
      obtain ⟨θ₃, X₃, ρ₃, μ₃, e₃, S₃, ⟨m, hm, q₃⟩, r₃⟩ := h₃'
      exact ⟨m, hm, θ₃, X₃, ρ₃, μ₃, e₃, S₃, q₃, r₃⟩
    | ret v => exact h₃'
    | brk => exact h₃'.elim
    | cont => exact h₃'.elim
  | false => exact wpAny_execs_nil ⟨θ₂, X₂, ρ₁, μ₂, e12, S₂, q₂, r12⟩

/-! ## targets -/
abbrev PG := D → List (Option D) → (List (Option D) → Prop) → Prop
inductive TPost (K : Keep) (G : Gr) (A : Around) (env : Env) (ns : List Str) (θ X : List Addr) (μ : List MO) (s : Shared) (Nx : List (Option D) → Prop) (s' : Shared) : Prop
  | mk (ρ' : List (Option D)) : K A env θ X s.heap s'.heap → Stt G A env ns θ X s'.heap ρ' μ → Nx ρ' → Rest s s' → TPost K G A env ns θ X μ s Nx s'
structure KeepOk (G : Gr) (K : Keep) : Prop where
  of : ∀ {A env θ X h h'}, Kp [] [] h h' → K A env θ X h h'
  tr : ∀ {A env θ X h h' h''}, K A env θ X h h' → K A env θ X h' h'' → K A env θ X h h''
  ext : ∀ {A env θ X h h'}, K A env θ X h h' → ExtS G A env θ X h θ X h'
theorem KV.ok : KeepOk G (KV G) := ⟨fun k => (Ext.stays k).toS, ExtS.trans, id⟩
theorem KL.ok : KeepOk G KL := ⟨fun k => k.mono (fun _ q => nomatch q) (fun _ q => nomatch q), Kp.trans,
  fun k => ⟨k.mono (fun c q => .inl (List.mem_singleton.mp q ▸ .head _)) (fun _ q => nomatch q), ⟨[], (List.append_nil _).symm, fun _ q => nomatch q⟩, fun _ q => q, fun _ q => .inl q⟩⟩
def TG (K : Keep) (G : Gr) (b : Nat) (fs : Fs) (ns : List Str) (t : Expr) (T : PG) : Prop :=
  ∀ (A : Around) (env : Env) (θ X : List Addr) (s : Shared) ρ μ v d Nx, AOk A b → fs.ok env → Stt G A env ns θ X s.heap ρ μ → Rep G s.heap θ X v d → T d ρ Nx →
    wpAny G.M A (assign t env v) (fun _ s' => TPost K G A env ns θ X μ s Nx s') (fun _ _ => False) s
abbrev TV (G : Gr) := TG (KV G) G
abbrev TL (G : Gr) := TG KL G
def gN (i : Nat) : PG := fun d ρ Nx => Nx (ρ.set i (some d))
theorem TG_name {K : Keep} {i : Nat} {x : Str} {p} (hst : StoreG K G fs ns i x) : TG K G b fs ns (.Name x p) (gN i) := fun A env θ X s ρ μ v d Nx hA he S R p =>
  wpAny_assign_Name (hst he S R fun s₂ e₂ S₂ r₂ => ⟨_, e₂, S₂, p, r₂⟩)
def setAll : List Nat → List D → List (Option D) → List (Option D)
  | [], _, ρ => ρ
  | _ :: _, [], ρ => ρ
  | i :: is, d :: ds, ρ => setAll is ds (ρ.set i (some d))
def StFs (K : Keep) (G : Gr) (A : Around) (env : Env) (ns : List Str) : List (Value → Sem Unit) → List Nat → Prop
  | [], [] => True
  | f :: r, i :: is => StF K G A env ns f i ∧ StFs K G A env ns r is
  | _, _ => False
theorem assign_all {K : Keep} (ok : KeepOk G K) : ∀ {ws : List (Value → Sem Unit)} {is : List Nat} {s : Shared} {ρ : List (Option D)} {vs : List Value} {ds : List D}, StFs K G A env ns ws is → Stt G A env ns θ X s.heap ρ μ → Reps G s.heap θ X vs ds → ds.length = is.length →
    wpAny G.M A (assignInOrder ws vs) (fun _ => TPost K G A env ns θ X μ s (· = setAll is ds ρ)) (fun _ _ => False) s
  | [], [], _, ρ, _, [], _, S, _, _ => wpAny_pure ⟨ρ, ok.of .refl, S, rfl, .refl⟩
  | f :: ws, i :: is, s, ρ, _, d :: ds, N, S, .mk R₀ R, l => wpAny_bind (wpAny_holding (N.1 S R₀ fun s₂ e₂ S₂ r₂ =>
      wpAny_mono (assign_all ok N.2 S₂ (R.kp (ok.ext e₂).kp (fun b q => (List.mem_append.mp q).elim (S.eo.inX b) fun q => S.own.inX b ((List.mem_append.mp q).elim .inl fun z => .inr (.inl z))) S.own.FLX (ok.ext e₂).th (ok.ext e₂).sub) (Nat.succ.inj l))
        (fun _ s₃ ⟨ρ', e₃, S₃, e, r₃⟩ => ⟨ρ', ok.tr e₂ e₃, S₃, e, r₂.trans r₃⟩) fun _ _ f => f))
  | [], _ :: _, _, _, _, _, N, _, _, _ => N.elim
  | _ :: _, [], _, _, _, _, N, _, _, _ => N.elim
  | [], [], _, _, _, _ :: _, _, _, _, l => nomatch l
  | _ :: _, _ :: _, _, _, _, [], _, _, _, l => nomatch l
theorem StFs.length {K : Keep} : ∀ {ws : List (Value → Sem Unit)} {is : List Nat}, StFs K G A env ns ws is → ws.length = is.length
  | [], [], _ => rfl
  | _ :: _, _ :: _, N => congrArg (· + 1) (StFs.length N.2)
  | [], _ :: _, N => N.elim
  | _ :: _, [], N => N.elim
def D.tup? : D → Option (List D)
  | .tup l => some l
  | _ => Option.none
theorem D.ofTup {d : D} {l : List D} (e : d.tup? = some l) : d = .tup l := by
  cases d with
  | tup => exact congrArg D.tup (Option.some.inj e)
  | _ => exact non e
def gT (is : List Nat) : PG := fun d ρ Nx => need d.tup? fun ds => guard (Nat.beq ds.length is.length) (Nx (setAll is ds ρ))
theorem kp_ext {a : Addr} (x : Heap.ExtBut a h h') (ha : h.objs.size ≤ a) (hz : h.objs.size ≤ h'.objs.size) : Kp [] [] h h' := .of_all hz fun b o e _ => x b o (fun q => absurd (Heap.lt_size e) (Nat.not_lt.mpr (q ▸ ha))) e
/-- a tuple's items, taken out and stored -/
theorem unpack_ok {K : Keep} (ok : KeepOk G K) (hA : A.handled = none) {ws : List (Value → Sem Unit)} {is : List Nat} {v : Value} {ds ds' : List D} {t : List Value → List Value} (N : StFs K G A env ns ws is) (S : Stt G A env ns θ X s.heap ρ μ) (R : Rep G s.heap θ X v (.tup ds)) (hl : ds.length = ws.length)
    (ht : ∀ h vs, Reps G h θ X vs ds → Reps G h θ X (t vs) ds') (hl' : ds'.length = ds.length) : wpAny G.M A (unpackItems v ws.length none) (fun vs => wpAny G.M A (assignInOrder ws (t vs)) (fun _ => TPost K G A env ns θ X μ s (· = setAll is ds' ρ)) (fun _ _ => False)) (fun _ _ => False) s := by
  obtain ⟨e, hX, R⟩ := R
  rw [← hl, ← R.length]
  refine (wpAny_size (wpAny_unpackItems_tuple (items := _) hA ⟨_, e, rfl, _, rfl⟩ fun h' x hz => ?_))
  have k : Kp [] [] s.heap h' := kp_ext x (Nat.le_refl _) hz
  exact wpAny_mono (assign_all (s := { s with heap := h' }) ok N (S.stays k) (ht _ _ (R.stays k)) ((hl'.trans hl).trans N.length)) (fun _ s₃ ⟨ρ', k₃, S₃, e, r₃⟩ => ⟨ρ', ok.tr (ok.of k) k₃, S₃, e, r₃⟩) fun _ _ f => f
end
end Mine
namespace Mine
open PySem PySem.W PySem.Calls PyProof.Rows

section
variable {G : Gr} {b : Nat} {fs : Fs} {ns : List Str} {A : Around} {env : Env} {θ X θ' X' θ'' X'' : List Addr} {h h' h'' hs : Heap} {ρ ρ' : List (Option D)} {μ : List MO} {s s' : Shared} {W : List Addr}

theorem Reps.extS {vs : List Value} {ds : List D} (R : Reps G h θ X vs ds) (S : Stt G A env ns θ X h ρ μ) (e : ExtS G A env θ X h θ' X' h') : Reps G h' θ' X' vs ds :=
  R.kp e.kp (fun b q => (List.mem_append.mp q).elim (S.eo.inX b) fun q => S.own.inX b ((List.mem_append.mp q).elim .inl fun z => .inr (.inl z))) S.own.FLX e.th e.sub

/-! ## tuple targets -/
/-- names, and their places -/
def NamesG (K : Keep) (G : Gr) (fs : Fs) (ns : List Str) : List Expr → List Nat → Prop
  | [], [] => True
  | e :: r, i :: is => (∃ x p, e = .Name x p ∧ StoreG K G fs ns i x) ∧ NamesG K G fs ns r is
  | _, _ => False
theorem NamesG.each {K : Keep} {A : Around} : ∀ {es : List Expr} {is : List Nat}, NamesG K G fs ns es is → fs.ok env → assignEach es env = (es.map fun e => assign e env).map (false, ·) ∧ StFs K G A env ns (es.map fun e => assign e env) is
  | [], [], _, _ => ⟨rfl, trivial⟩
  | e :: r, i :: is, ⟨⟨x, p, e1, h⟩, N⟩, he => by
    subst e1
    obtain ⟨a, b⟩ := NamesG.each N he
    exact ⟨congrArg ((false, assign (.Name x p) env) :: ·) a, fun S R k => wpAny_assign_Name (h he S R k), b⟩
  | [], _ :: _, N, _ => N.elim
  | _ :: _, [], N, _ => N.elim
theorem noStars {ws : List (Value → Sem Unit)} : (ws.map (false, ·)).findIdx? (·.1) = none := by
  rw [List.findIdx?_eq_none_iff]; intro x hx; obtain ⟨e', _, rfl⟩ := List.mem_map.mp hx; rfl
theorem beq_le {m n : Nat} {p : Prop} (h : guard (Nat.beq m n) p) : m = n ∧ p := ⟨Nat.eq_of_beq_eq_true h.out.1, h.out.2⟩
theorem TG_tup {K : Keep} (ok : KeepOk G K) {es : List Expr} {is : List Nat} {k p} (N : NamesG K G fs ns es is) : TG K G b fs ns (.Tuple es k p) (gT is) := fun A env θ X s ρ μ v d Nx hA he S R p => need.elim p fun ds hd p₁ => by
  obtain ⟨hl, p₂⟩ := beq_le p₁
  cases D.ofTup hd
  obtain ⟨e1, N⟩ := N.each he
  show wpAny _ _ (do standAt _; unpack _ (assignEach es env)) _ _ _
  rw [e1]
  refine wpAny_bind (wpAny_standAt ?_)
  unfold unpack
  rw [noStars, List.length_map, List.map_map, show ((fun x => x.2) ∘ fun x => (false, x) : (Value → Sem Unit) → (Value → Sem Unit)) = id from rfl, List.map_id]
  refine wpAny_bind (wpAny_holding ?_)
  exact wpAny_mono (unpack_ok ok hA.1 (t := id) N S R (hl.trans N.length.symm) (fun _ _ r => r) rfl) (fun _ s' h => wpAny_mono h (fun _ s' ⟨ρ', a, b, c, d⟩ => ⟨ρ', a, b, c ▸ p₂, d⟩) fun _ _ f => f) fun _ _ f => f

/-- a tuple assigned; ps: what the target does with the datum -/
def wTg (T : PG) (P : PE) : PS := fun ρ μ Nx _ Ex => P ρ μ (fun d μ' => T d ρ fun ρ' => Nx ρ' μ') Ex
theorem SV_tup {es : List Expr} {is : List Nat} {e : Expr} {P : PE} {k tp pos} (N : NamesG (KV G) G fs ns es is) (he : EV G b fs ns e P) (hs : ∀ env, fs.ok env → swapsWithSole [.Tuple es k tp] e pos.line env = pure false)
    (hw : ∀ env, fs.ok env → swappedStores [.Tuple es k tp] e env = pure none) : SV G b fs ns (.Assign [.Tuple es k tp] e pos) (wTg (gT is) P) := fun A env θ X s ρ μ Nx Rt Ex hA ho hF S p =>
  Assign_Tuple (he.go hA ho S p (fun v s₁ θ₁ X₁ d₁ μ₁ e₁ S₁ R₁ q₁ r₁ => wpAny_mono (TG_tup KV.ok N A env θ₁ X₁ s₁ ρ μ₁ v d₁ (fun ρ' => Nx ρ' μ₁) hA ho S₁ R₁ q₁) (fun _ s₂ ⟨ρ', e₂, S₂, q₂, r₂⟩ => ⟨θ₁, X₁, ρ', μ₁, e₁.toS.trans e₂, S₂, q₂, r₁.trans r₂⟩) fun _ _ f => f.elim) fun _ _ q => q.toS) (hs env ho) (hw env ho)
def NamesB (G : Gr) (fs : Fs) (ns : List Str) : List Str → List Nat → Prop
  | [], [] => True
  | x :: r, i :: is => StoreOk G fs ns i x ∧ NamesB G fs ns r is
  | _, _ => False
theorem NamesB.each {A : Around} : ∀ {es : List Str} {is : List Nat}, NamesB G fs ns es is → fs.ok env → StFs (KV G) G A env ns (es.map fun n => bindName env n) is
  | [], [], _, _ => trivial
  | _ :: _, _ :: _, N, he => ⟨fun S R k => bindName_ (N.1 he S R k), NamesB.each N.2 he⟩
  | [], _ :: _, N, _ => N.elim
  | _ :: _, [], N, _ => N.elim
theorem Reps.reverse : ∀ {ds : List D} {vs : List Value}, Reps G h θ X vs ds → Reps G h θ X vs.reverse ds.reverse
  | [], _, e => by cases e; exact Reps.nil
  | _ :: _, _ :: _, .mk a b => by
    rw [List.reverse_cons, List.reverse_cons]
    exact (Reps.reverse b).append (.mk a Reps.nil)
/-- the stores in the turned order; is: the places in the turned order -/
def gTS (is : List Nat) : PG := fun d ρ Nx => need d.tup? fun ds => guard (Nat.beq ds.length is.length) (Nx (setAll is ds.reverse ρ))
theorem SV_tupS {es : List Expr} {names : List Str} {is : List Nat} {e : Expr} {P : PE} {k tp pos} (N : NamesB G fs ns names.reverse is) (he : EV G b fs ns e P) (hs : ∀ env, fs.ok env → swapsWithSole [.Tuple es k tp] e pos.line env = pure false)
    (hw : ∀ env, fs.ok env → swappedStores [.Tuple es k tp] e env = pure (some names)) : SV G b fs ns (.Assign [.Tuple es k tp] e pos) (wTg (gTS is) P) := fun A env θ X s ρ μ Nx Rt Ex hA ho hF S p =>
  Assign_Tuple_swapped (names := names) (he.go hA ho S p (fun v s₁ θ₁ X₁ d₁ μ₁ e₁ S₁ R₁ q₀ r₁ => need.elim q₀ fun ds hd q₀ => by
    obtain ⟨hl, q₁⟩ := beq_le q₀
    cases D.ofTup hd
    have N := NamesB.each (A := A) N ho
    have hn : (names.reverse.map fun n => bindName env n).length = names.length := by rw [List.length_map, List.length_reverse]
    rw [← hn]
    exact wpAny_mono (unpack_ok KV.ok hA.1 (t := List.reverse) N S₁ R₁ (hl.trans N.length.symm) (fun _ _ r => r.reverse) List.length_reverse) (fun _ s' h => wpAny_mono h (fun _ s₃ ⟨ρ', e₃, S₃, c, r₃⟩ => ⟨θ₁, X₁, ρ', μ₁, e₁.toS.trans e₃, S₃, c ▸ q₁, r₁.trans r₃⟩) fun _ _ f => f.elim) fun _ _ f => f.elim) fun _ _ q => q.toS) (hs env ho) (hw env ho)

/-! ## what a for walks -/
abbrev PI := List (Option D) → List MO → (List D → List MO → Prop) → (Exn → List MO → Prop) → Prop
/-- what a turn hands out: a datum that was there at the start, or a new tuple -/
inductive ItemAt (G : Gr) (θ X : List Addr) (h₁ h h' : Heap) : Value → D → Prop
  | old {v d} : Rep G h₁ θ X v d → ItemAt G θ X h₁ h h' v d
  | new {T vs n ds} : h.objs.size ≤ T → h'.get? T = some ({ cls := .type "tuple", data := .seq (List.toArray vs) n } : Obj) → (∀ h θ X, Reps G h θ X vs ds) → ItemAt G θ X h₁ h h' (.ref T) (.tup ds)
/-- the state behind a turn -/
inductive TurnAt (G : Gr) (θ X : List Addr) (h₁ : Heap) (wr : List Addr) (St : Heap → Prop) (v : Value) (d : D) (s : Shared) : Shared → Prop
  | mk (h' : Heap) (tk : Nat) : St h' → (∀ b o, b ∉ wr → s.heap.get? b = some o → h'.get? b = some o) → s.heap.objs.size ≤ h'.objs.size → ItemAt G θ X h₁ s.heap h' v d → TurnAt G θ X h₁ wr St v d s { s with heap := h', toks := tk }
structure Turns (G : Gr) (A : Around) (θ X : List Addr) (h₁ : Heap) (target : Expr) (I : Addr) (fp wr : List Addr) (ds : List D) (St : Nat → Heap → Prop) : Prop where
  sub : ∀ b ∈ wr, b ∈ fp
  frame : ∀ i h h', St i h → (∀ b ∈ fp, ∀ o, h.get? b = some o → h'.get? b = some o) → St i h'
  item : ∀ i d (s : Shared) (F : Option Value → Shared → Prop) (E : Value → Shared → Prop), ds[i]? = some d → St i s.heap →
    (∀ v s', wpAny G.M A (letOwnedTupleGo target (.ref I) v) (fun _ => TurnAt G θ X h₁ wr (St (i + 1)) v d s) (fun _ _ => False) s' → F (some v) s') → wpAny G.M A (pyNext (.ref I)) F E s
  done : ∀ (s : Shared) (Q : Option Value → Shared → Prop) (E : Value → Shared → Prop), St ds.length s.heap →
    (∀ h' tk, (∀ b o, b ∉ wr → s.heap.get? b = some o → h'.get? b = some o) → Q none { s with heap := h', toks := tk }) → wpAny G.M A (pyNext (.ref I)) Q E s
  self : ∀ i (s : Shared) (Q : Value → Shared → Prop) (E : Value → Shared → Prop), St i s.heap → Q (.ref I) s → wpAny G.M A (pyIter (.ref I)) Q E s
def IterOk (G : Gr) (A : Around) (θ X : List Addr) (s₁ s₀ : Shared) (target : Expr) (xv : Value) (ds : List D) : Prop := ∀ (Q' : Value → Shared → Prop) (E' : Value → Shared → Prop),
  (∀ I s₂ fp wr St, Turns G A θ X s₁.heap target I fp wr ds St → St 0 s₂.heap → Kp [] [] s₁.heap s₂.heap → Rest s₁ s₂ → (∀ a ∈ wr, s₁.heap.objs.size ≤ a ∧ a < s₂.heap.objs.size) → (∀ a ∈ fp, a ∈ wr ∨ (a ∉ X ∧ a < s₁.heap.objs.size)) → Q' (.ref I) s₂) →
    wpAny G.M A (pyIter xv) Q' E' s₀
inductive PostI (G : Gr) (A : Around) (env : Env) (ns : List Str) (ρ : List (Option D)) (θ X : List Addr) (target : Expr) (s : Shared) (Q : List D → List MO → Prop) (v : Value) (s₀ : Shared) : Prop
  | mk (s' : Shared) (θ' X' ds μ') : Ext G A θ X s.heap θ' X' s'.heap → Stt G A env ns θ' X' s'.heap ρ μ' → IterOk G A θ' X' s' s₀ target v ds → Q ds μ' → Rest s s' → PostI G A env ns ρ θ X target s Q v s₀
def IT (G : Gr) (b : Nat) (fs : Fs) (ns : List Str) (target : Expr) (x : Expr) (P : PI) : Prop :=
  ∀ (A : Around) (env : Env) (θ X : List Addr) (s : Shared) ρ μ Q Ex, AOk A b → fs.ok env → Stt G A env ns θ X s.heap ρ μ → P ρ μ Q Ex →
    wpAny G.M A (eval x env) (PostI G A env ns ρ θ X target s Q) (PostX G A env ns ρ θ X s Ex) s

theorem letGo_rec {I : Addr} {cls : String} {vs : Array Value} {target : Expr} {v : Value} {Q : Unit → Shared → Prop} {E : Value → Shared → Prop} {M : Model} (e : ∃ o, s.heap.get? I = some o ∧ o.cls = .type cls ∧ o.data = .fields vs)
    (hc : (["enumerate", "zip", "dict_itemiterator", "dict_reverseitemiterator", "odict_iterator", "itertools.zip_longest", "itertools.pairwise"] : List String).contains cls = false) (q : Q () s) : wpAny M A (letOwnedTupleGo target (.ref I) v) Q E s := by
  obtain ⟨⟨oc, od, oda, osl⟩, e, h1, h2⟩ := e
  dsimp only at h1 h2
  subst h1 h2
  have main : ∀ {m : Value → Sem Unit}, (∀ v, (∀ a, v ≠ .ref a) → m v = pure ()) → (∀ a, m (.ref a) = do
      let o ← load I
      match o.cls, o.data with
      | .type n, .fields vs =>
        if (["enumerate", "zip", "dict_itemiterator", "dict_reverseitemiterator", "odict_iterator", "itertools.zip_longest", "itertools.pairwise"].contains n && vs[0]? == some (rawInt a)) = true then do
          rule "for.unpacks-the-owned-tuple"
          updateField I 0 .none
        else pure ()
      | _, _ => pure ()) → wpAny M A (m v) Q E s := fun h1 h2 => by
    by_cases hv : ∃ a, v = .ref a
    · obtain ⟨a, rfl⟩ := hv
      rw [h2]
      refine wpAny_bind (wpAny_load e ?_)
      dsimp only
      rw [hc]
      exact wpAny_pure q
    · rw [h1 v fun a e => hv ⟨a, e⟩]
      exact wpAny_pure q
  cases target with
  | Tuple => exact main (m := letOwnedTupleGo (.Tuple _ _ _) (.ref I)) (fun v hv => by cases v <;> first | rfl | exact absurd rfl (hv _)) fun _ => rfl
  | List => exact main (m := letOwnedTupleGo (.List _ _) (.ref I)) (fun v hv => by cases v <;> first | rfl | exact absurd rfl (hv _)) fun _ => rfl
  | _ => exact wpAny_pure q

/-- the plain walks: list, range -/
theorem turns_of {target : Expr} {I : Addr} {fp wr : List Addr} {ds : List D} {Pv : Nat → Value → Prop} {St : Nat → Heap → Prop} {h₁ : Heap} (Wk : Walks G.prog G.w A I fp wr ds.length Pv St) (hv : ∀ i v, Pv i v → ∃ d, ds[i]? = some d ∧ Rep G h₁ θ X v d)
    (hgo : ∀ i h, St i h → ∃ o vs cls, h.get? I = some o ∧ o.cls = .type cls ∧ o.data = .fields vs ∧ (["enumerate", "zip", "dict_itemiterator", "dict_reverseitemiterator", "odict_iterator", "itertools.zip_longest", "itertools.pairwise"] : List String).contains cls = false) :
    Turns G A θ X h₁ target I fp wr ds St := ⟨Wk.sub, Wk.frame, fun i d s F E hd st k => by
  refine wpAny_size (Wk.item i s _ _ (List.getElem?_eq_some_iff.mp hd).1 st fun v h' tk hP st' hk hz => k v _ ?_)
  obtain ⟨o, vs, cls, g1, g2, g3, g4⟩ := hgo _ _ st'
  obtain ⟨d', hd', R⟩ := hv i v hP
  cases hd.symm.trans hd'
  exact letGo_rec (s := { s with heap := h', toks := tk }) ⟨o, g1, g2, g3⟩ g4 (.mk h' tk st' hk hz (.old R)), fun s Q E st k => Wk.done s Q E st k, Wk.self⟩

theorem it_list {target : Expr} {v : Value} {ds : List D} (hA : AOk A b) (R : Rep G s.heap θ X v (.list ds)) : IterOk G A θ X s s target v ds := by
  intro Q' E' k
  obtain @⟨a, vs, n, e, hX, r⟩ := R
  · have hl : s.heap.IsList a vs.toArray := ⟨_, e, rfl, _, rfl⟩
    have hlt := Heap.lt_size e
    refine wpAny_pyIter_list hl ?_
    have Wk := Walks.list (prog := G.prog) (w := G.w) (A := A) hA.1 s.heap.objs.size a (Nat.ne_of_lt hlt) vs.toArray
    rw [show vs.toArray.size = ds.length by rw [List.size_toArray, r.length]] at Wk
    refine k s.heap.objs.size { s with heap := s.heap.push { cls := .type "list_iterator", data := .fields #[.ref a, .int 0 0] } } _ _ _ (turns_of Wk (fun i w hw => ?_) fun i h st => ?_) ⟨⟨_, Heap.get?_push_size _ rfl, rfl, rfl⟩, hl.push _⟩ (.push _) rfl
      (fun c hc => by rw [List.mem_singleton.mp hc]; exact ⟨Nat.le_refl _, by rw [Heap.size_push]; exact Nat.lt_succ_self _⟩) (fun c hc => ?_)
    · have hw' : vs[i]? = some w := List.getElem?_toArray.symm.trans hw
      have : i < ds.length := r.length ▸ (List.getElem?_eq_some_iff.mp hw').1
      obtain ⟨w', h1, h2⟩ := r.get (i := i) (List.getElem?_eq_getElem this)
      cases hw'.symm.trans h1
      exact ⟨_, List.getElem?_eq_getElem this, h2⟩
    · obtain ⟨⟨o, h1, h2, h3⟩, _⟩ := st
      exact ⟨o, _, _, h1, h2, h3, by decide +kernel⟩
    · rcases List.mem_cons.mp hc with rfl | hc
      · exact .inl (.head _)
      · rw [List.mem_singleton.mp hc]; exact .inr ⟨hX, hlt⟩
def D.list? : D → Option (List D)
  | .list l => some l
  | _ => Option.none
theorem D.ofList {d : D} {l : List D} (e : d.list? = some l) : d = .list l := by
  cases d with
  | list => exact congrArg D.list (Option.some.inj e)
  | _ => exact non e
def iList (P : PE) : PI := fun ρ μ Q Ex => P ρ μ (fun d μ' => need d.list? fun ds => Q ds μ') Ex
theorem IT_list {target x : Expr} {P : PE} (hx : EV G b fs ns x P) : IT G b fs ns target x (iList P) := fun A env θ X s ρ μ Q Ex hA he S p =>
  hx.go hA he S p (fun v s₁ θ₁ X₁ d₁ μ₁ e₁ S₁ R₁ q₁ r₁ => need.elim q₁ fun ds hd q => .mk s₁ θ₁ X₁ ds μ₁ e₁ S₁ (it_list hA (D.ofList hd ▸ R₁)) q r₁) fun _ _ q => q

/-! ## a walk on its way -/
/-- θ₁: the handles at the start; X₀: what is spared from the start on; z: the heap's size then -/
structure Wst (G : Gr) (A : Around) (env : Env) (ns : List Str) (θ₁ X₀ : List Addr) (z : Nat) (St : Nat → Heap → Prop) (i : Nat) (θ X : List Addr) (h : Heap) (ρ : List (Option D)) (μ : List MO) : Prop where
  hθ : ∀ c ∈ θ, c ∈ θ₁ ∨ z ≤ c
  hX : ∀ c ∈ X₀, c ∈ X
  hz : z ≤ h.objs.size
  S : Stt G A env ns θ X h ρ μ
  st : St i h
/-- what the walk needs lies apart from what is written -/
def Apart (G : Gr) (A : Around) (env : Env) (θ₁ fp : List Addr) (z : Nat) : Prop := ∀ {θ' : List Addr}, (∀ c ∈ θ', c ∈ θ₁ ∨ z ≤ c) → ∀ c ∈ fp, c ∉ envA env ∧ c ∉ θ' ∧ c ∉ G.tA ∧ c ∉ FL A
section
variable {target : Expr} {I : Addr} {θ₁ X₁ X₀ fp wr : List Addr} {ds : List D} {z i : Nat} {h₁ : Heap} {St : Nat → Heap → Prop}
theorem Wst.step {θ' X' : List Addr} {μ' : List MO} (w : Wst G A env ns θ₁ X₀ z St i θ X h ρ μ) (Wk : Turns G A θ₁ X₁ h₁ target I fp wr ds St) (ap : Apart G A env θ₁ fp z) (e : ExtS G A env θ X h θ' X' h') (S : Stt G A env ns θ' X' h' ρ' μ') : Wst G A env ns θ₁ X₀ z St i θ' X' h' ρ' μ' := by
  refine ⟨fun c hc => ?_, fun c hc => e.sup c (w.hX c hc), Nat.le_trans w.hz e.kp.1, S, Wk.frame _ _ _ w.st fun c hc o g => ?_⟩
  · obtain ⟨nw, rfl, hnw⟩ := e.new
    exact (List.mem_append.mp hc).elim (w.hθ c) fun q => .inr (Nat.le_trans w.hz (hnw c q))
  · obtain ⟨a2, a3, a4, a5⟩ := ap w.hθ c hc
    exact e.kp.get g (fun q => (List.mem_append.mp q).elim a2 fun q => (List.mem_append.mp q).elim a3 a4) a5
theorem Wst.next {j : Nat} (w : Wst G A env ns θ₁ X₀ z St i θ X h ρ μ) (Wk : Turns G A θ₁ X₁ h₁ target I fp wr ds St) (ap : Apart G A env θ₁ fp z) (hwX : ∀ c ∈ wr, c ∈ X₀) (st : St j h') (hk : ∀ b o, b ∉ wr → h.get? b = some o → h'.get? b = some o) (hz : h.objs.size ≤ h'.objs.size) :
    Wst G A env ns θ₁ X₀ z St j θ X h' ρ μ ∧ Kp wr [] h h' := by
  have k : Kp wr [] h h' := .of_all hz fun c o g hc => hk c o hc g
  refine ⟨⟨w.hθ, w.hX, Nat.le_trans w.hz hz, w.S.move (k.mono (fun _ q => .inl q) fun _ q => nomatch q) (fun c hc => ?_) (.same w.S.own hz), st⟩, k⟩
  obtain ⟨a2, a3, a4, a5⟩ := ap w.hθ c (Wk.sub c hc)
  exact ⟨w.hX c (hwX c hc), a3, a4, a5, a2⟩
theorem ItemAt.rep {v : Value} {d : D} (hv : ItemAt G θ₁ X₁ h₁ h h' v d) (hs : Rep G h₁ θ₁ X₁ v d → Rep G h' θ X v d) (O : Own G A h θ X) : Rep G h' θ X v d := by
  cases hv with
  | old R => exact hs R
  | new hT g r => exact .tup g (fun q => absurd (O.lt _ q) (Nat.not_lt.mpr hT)) (r _ _ _)
/-- one turn -/
theorem Wst.turn (w : Wst G A env ns θ₁ X₀ z St i θ X s.heap ρ μ) (Wk : Turns G A θ₁ X₁ h₁ target I fp wr ds St) (ap : Apart G A env θ₁ fp z) (hwX : ∀ c ∈ wr, c ∈ X₀) (hi : i ≤ ds.length) {F : Option Value → Shared → Prop} {E : Value → Shared → Prop} {K : Value → Shared → Prop}
    (up : ∀ {h' v d}, Kp wr [] s.heap h' → Rep G h₁ θ₁ X₁ v d → Rep G h' θ X v d)
    (hF : ∀ v s', wpAny G.M A (letOwnedTupleGo target (.ref I) v) (fun _ => K v) (fun _ _ => False) s' → F (some v) s')
    (hs : ∀ v h' tk, (hi : i < ds.length) → Wst G A env ns θ₁ X₀ z St (i + 1) θ X h' ρ μ → Kp wr [] s.heap h' → Rep G h' θ X v ds[i] → K v { s with heap := h', toks := tk })
    (hn : ∀ h' tk, i = ds.length → Stt G A env ns θ X h' ρ μ → Kp wr [] s.heap h' → F none { s with heap := h', toks := tk }) : wpAny G.M A (pyNext (.ref I)) F E s := by
  by_cases hlt : i < ds.length
  · refine Wk.item i ds[i] s F E (List.getElem?_eq_getElem hlt) w.st fun v s' h => hF v s' (wpAny_mono h (fun _ s'' h'' => ?_) fun _ _ f => f)
    obtain ⟨h', tk, st', hk, hz, hv⟩ := h''
    obtain ⟨w', k⟩ := w.next Wk ap hwX st' hk hz
    exact hs v h' tk hlt w' k (hv.rep (up k) w.S.own)
  · obtain rfl : i = ds.length := Nat.le_antisymm hi (Nat.not_lt.mp hlt)
    refine wpAny_size (Wk.done s _ _ w.st fun h' tk hk hz => ?_)
    have k : Kp wr [] s.heap h' := .of_all hz fun c o g hc => hk c o hc g
    refine hn h' tk rfl (w.S.move (k.mono (fun _ q => .inl q) fun _ q => nomatch q) (fun c hc => ?_) (.same w.S.own hz)) k
    obtain ⟨a2, a3, a4, a5⟩ := ap w.hθ c (Wk.sub c hc)
    exact ⟨w.hX c (hwX c hc), a3, a4, a5, a2⟩
theorem ExtS.wrt (e : ExtS G A env θ₁ X₁ h₁ θ X h) (k : Kp wr [] h h') (hw : ∀ c ∈ wr, h₁.objs.size ≤ c) : ExtS G A env θ₁ X₁ h₁ θ X h' := ⟨e.kp.trans' k (fun c hc => .inr (hw c hc)) (fun _ q => nomatch q), e.new, e.sup, e.sub⟩
theorem Ext.wrt (e : Ext G A θ₁ X₁ h₁ θ X h) (k : Kp wr [] h h') (hw : ∀ c ∈ wr, h₁.objs.size ≤ c) : Ext G A θ₁ X₁ h₁ θ X h' := ⟨e.kp.trans' k (fun c hc => .inr (hw c hc)) (fun _ q => nomatch q), e.new, e.sup, e.sub⟩
end

/-! ## for -/
def forT (T : PG) (P : PS) : List D → PS
  | [] => fun ρ μ Nx _ _ => Nx ρ μ
  | d :: ds => fun ρ μ Nx Rt Ex => T d ρ (fun ρ' => P ρ' μ (fun ρ'' μ'' => forT T P ds ρ'' μ'' Nx Rt Ex) Rt Ex)
def wFor (I : PI) (T : PG) (P : PS) : PS := fun ρ μ Nx Rt Ex => I ρ μ (fun ds μ' => forT T P ds ρ μ' Nx Rt Ex) Ex
/-- the state of a for -/
inductive ForI (G : Gr) (A : Around) (env : Env) (ns : List Str) (θ₁ X₁ X₀ : List Addr) (z : Nat) (St : Nat → Heap → Prop) (s₁ : Shared) (ds : List D) (J : List D → List (Option D) → List MO → Prop) (k : Nat) (s : Shared) : Prop
  | mk (i θ X ρ μ) : i ≤ ds.length → k = ds.length + 1 - i → ExtS G A env θ₁ X₁ s₁.heap θ X s.heap → Wst G A env ns θ₁ X₀ z St i θ X s.heap ρ μ → J (ds.drop i) ρ μ → Rest s₁ s → ForI G A env ns θ₁ X₁ X₀ z St s₁ ds J k s
/-- what is let, in a turn of a for -/
theorem for_turn {target : Expr} {body : List Stmt} {T : PG} {P : PS} {s₁ s₃ : Shared} {θ₁ X₁ X₀ fp wr : List Addr} {ds : List D} {z k : Nat} {I : Addr} {St : Nat → Heap → Prop} {Nx : List (Option D) → List MO → Prop} {Rt : D → List MO → Prop} {Ex : Exn → List MO → Prop} {R : Result → Shared → Prop}
    (ht : TV G b fs ns target T) (hp : SB G b fs ns body P) (hA : AOk A b) (he : fs.ok env) (hF : InFr A env) (Wk : Turns G A θ₁ X₁ s₁.heap target I fp wr ds St) (ap : Apart G A env θ₁ fp z) (hwX : ∀ c ∈ wr, c ∈ X₀) (hwr : ∀ c ∈ wr, s₁.heap.objs.size ≤ c) (S₁ : Stt G A env ns θ₁ X₁ s₁.heap ρ μ)
    (kN : ∀ f s', PostS G A env ns θ₁ X₁ s₁ Nx Rt f s' → R (.ok f) s') (kE : ∀ v s', PostSX G A env ns θ₁ X₁ s₁ Ex v s' → notedBy G.M A env (fun e s' => R (.error e) s') v s')
    (hI : ForI G A env ns θ₁ X₁ X₀ z St s₁ ds (fun r ρ μ => forT T P r ρ μ Nx Rt Ex) k s₃) :
    wpAny G.M A (pyNext (.ref I)) (fun r s₁' => match r with
      | none => wpAny G.M A (execs [] env) (fun f s₃ => R (.ok f) s₃) (notedBy G.M A env fun e s' => R (.error e) s') s₁'
      | some v => wpAny G.M A (letOwnedTupleGo target (.ref I) v) (fun _ s₁' =>
          wpAny G.M A (assign target env v) (fun _ s₂ => wpAny G.M A (execs body env) (fun f s₃ => match f with
            | .next | .cont => ∃ m, m < k ∧ ForI G A env ns θ₁ X₁ X₀ z St s₁ ds (fun r ρ μ => forT T P r ρ μ Nx Rt Ex) m s₃
            | .brk => R (.ok .next) s₃
            | .ret v => R (.ok (.ret v)) s₃) (notedBy G.M A env fun e s' => R (.error e) s') s₂) (notedBy G.M A env fun e s' => R (.error e) s') s₁') (notedBy G.M A env fun e s' => R (.error e) s') s₁') (notedBy G.M A env fun e s' => R (.error e) s') s₃ := by
  obtain ⟨i, θ₃, X₃, ρ₃, μ₃, hi, rfl, e₃, w, q, r₃⟩ := hI
  refine w.turn Wk ap hwX hi (fun k R => (R.extS S₁ e₃).kp k (fun c hc => w.hX c (hwX c hc)) (fun _ q => nomatch q) (fun _ _ e => e) fun _ q => .inl q) (fun v s' h => wpAny_mono h (fun _ _ q => q) fun _ _ f => f.elim) (fun v h' tk hi w k R => ?_) fun h' tk hi S k => wpAny_execs_nil (kN _ _ ⟨θ₃, X₃, ρ₃, μ₃, e₃.wrt k hwr, S, by rw [hi, List.drop_length] at q; exact q, r₃.trans .mk⟩)
  rw [List.drop_eq_getElem_cons hi] at q
  have e₄ := e₃.wrt k hwr
  refine wpAny_mono (ht A env θ₃ X₃ { s₃ with heap := h', toks := tk } ρ₃ μ₃ v ds[i] _ hA he w.S R q) (fun _ s₅ h₅ => ?_) fun _ _ f => f.elim
  obtain ⟨ρ₅, e₅, S₅, q₅, r₅⟩ := h₅
  have e₅ : ExtS G A env θ₃ X₃ h' θ₃ X₃ s₅.heap := e₅
  have r₆ : Rest s₁ s₅ := (r₃.trans .mk).trans r₅
  have w₅ := w.step Wk ap e₅ S₅
  refine wpAny_mono (hp A env θ₃ X₃ s₅ ρ₅ μ₃ _ Rt Ex hA he hF S₅ q₅) (fun f s₆ h₆ => ?_) fun v s₆ q => kE v s₆ (q.rebase (e₄.trans e₅) r₆)
  cases f with
  | next =>
    obtain ⟨θ₆, X₆, ρ₆, μ₆, e₆, S₆, q₆, r₇⟩ := h₆
    exact ⟨ds.length + 1 - (i + 1), by omega, i + 1, θ₆, X₆, ρ₆, μ₆, hi, rfl, (e₄.trans e₅).trans e₆, w₅.step Wk ap e₆ S₆, q₆, r₆.trans r₇⟩
  | ret v => exact kN _ _ (PostS.rebase (e₄.trans e₅) r₆ h₆)
  | brk => exact h₆.elim
  | cont => exact h₆.elim
theorem walk_apart {s₁ s₂ : Shared} {θ₁ X₁ fp wr : List Addr} (S : Stt G A env ns θ₁ X₁ s₁.heap ρ μ) (k : s₁.heap.objs.size ≤ s₂.heap.objs.size) (hwr : ∀ a ∈ wr, s₁.heap.objs.size ≤ a ∧ a < s₂.heap.objs.size) (hfp : ∀ a ∈ fp, a ∈ wr ∨ (a ∉ X₁ ∧ a < s₁.heap.objs.size)) :
    ∀ c ∈ fp, c ∉ X₁ ∧ c < s₂.heap.objs.size := fun c hc => (hfp c hc).elim (fun z => ⟨fun q => absurd (S.own.lt c q) (Nat.not_lt.mpr (hwr c z).1), (hwr c z).2⟩) fun z => ⟨z.1, Nat.lt_of_lt_of_le z.2 k⟩
theorem Own.apart {h₁ : Heap} {θ₁ X₁ : List Addr} {z c : Nat} (O : Own G A h₁ θ₁ X₁) (o : c ∉ X₁ ∧ c < z) {θ' : List Addr} (hθ : ∀ c ∈ θ', c ∈ θ₁ ∨ z ≤ c) : c ∉ θ' ∧ c ∉ G.tA ∧ c ∉ FL A :=
  ⟨fun q => (hθ c q).elim (fun q => o.1 (O.inX c (.inl q))) fun q => absurd o.2 (Nat.not_lt.mpr q), fun q => o.1 (O.inX c (.inr (.inl q))), fun q => o.1 (O.inX c (.inr (.inr q)))⟩
theorem SV_for {t x : Expr} {body : List Stmt} {I : PI} {T : PG} {P : PS} {pos} (hx : IT G b fs ns t x I) (ht : TV G b fs ns t T) (hp : SB G b fs ns body P) (hs : ∀ env v, foldedSetIterable x env v = pure v) : SV G b fs ns (.For t x body [] pos) (wFor I T P) :=
  fun A env θ X s ρ μ Nx Rt Ex hA he hF S p => by
  refine wpAny_For (wpAny_mono (hx A env θ X s ρ μ _ Ex hA he S p) (fun v s₀ h₁ => ?_) fun _ _ q => q.toS) (hs env)
  obtain ⟨s₁, θ₁, X₁, ds, μ₁, e₁, S₁, iok, q₁, r₁⟩ := h₁
  refine iok _ _ fun I s₂ fp wr St Wk st0 k12 r12 hwr hfp => ?_
  have fo := walk_apart S₁ k12.1 hwr hfp
  have gr2 : Grow G s₁.heap X₁ s₂.heap (wr ++ X₁) := ⟨fun c q => List.mem_append_right _ q, fun c q => (List.mem_append.mp q).elim (fun z => .inr (hwr c z).1) .inl, fun c q => (List.mem_append.mp q).elim (fun z => (hwr c z).2) fun z => Nat.lt_of_lt_of_le (S₁.own.lt c z) k12.1,
    fun c q => (List.mem_append.mp q).elim (fun z => base_none S₁.inv (hwr c z).1) (S₁.own.new c)⟩
  exact codeAny_forLoop_any (R := fun r s' => match r with | .ok f => PostS G A env ns θ X s Nx Rt f s' | .error e => cameBackBy G.M A env (PostSX G A env ns θ X s Ex) e s') (ForI G A env ns θ₁ X₁ (wr ++ X₁) s₂.heap.objs.size St s₁ ds fun r ρ μ => forT T P r ρ μ Nx Rt Ex) (fun k s₃ => for_turn (X₀ := wr ++ X₁) (R := fun r s' => match r with | .ok f => PostS G A env ns θ X s Nx Rt f s' | .error e => cameBackBy G.M A env (PostSX G A env ns θ X s Ex) e s') ht hp hA he hF Wk (fun hθ c hc => ⟨fun q => (fo c hc).1 (S₁.eo.inX c q), S₁.own.apart (fo c hc) hθ⟩) (fun _ q => List.mem_append_left _ q) (fun c q => (hwr c q).1) S₁
      (fun f s' q => q.rebase e₁.toS r₁) fun v s' q => noted hF (q.rebase e₁.toS r₁) fun s₃ q => cameBack q) (ds.length + 1)
    ⟨0, θ₁, wr ++ X₁, ρ, μ₁, Nat.zero_le _, rfl, ⟨k12.mono (fun _ q => nomatch q) (fun _ q => nomatch q), ⟨[], (List.append_nil _).symm, fun _ q => nomatch q⟩, gr2.sup, gr2.sub⟩,
      ⟨fun _ q => .inl q, fun _ q => q, Nat.le_refl _, S₁.move (W := []) (k12.mono (fun _ q => nomatch q) fun _ q => nomatch q) (fun _ q => nomatch q) gr2, st0⟩, q₁, r12⟩
end
end Mine
namespace Mine
open PySem PySem.W PySem.Calls PyProof.Rows

section
variable {G : Gr} {b : Nat} {fs : Fs} {ns : List Str} {A : Around} {env : Env} {θ X θ' X' θ'' X'' : List Addr} {h h' h'' hs : Heap} {ρ ρ' : List (Option D)} {μ : List MO} {s s' : Shared} {W : List Addr}

/-! ## range -/
def rangeD (n : Nat) : List D := (List.range n).map fun (i : Nat) => .int (i : Int)
theorem rangeD_length (n : Nat) : (rangeD n).length = n := List.length_map _ |>.trans List.length_range
theorem rangeD_get {n i : Nat} (h : i < n) : (rangeD n)[i]? = some (.int (i : Int)) := by
  unfold rangeD
  rw [List.getElem?_map, List.getElem?_range h]; rfl
def rngK (k : Int) (K : Nat → Prop) : Prop := match k with
  | .ofNat n => n ≤ 1000000000 ∧ K n
  | .negSucc _ => False
theorem rngK.elim {p : Prop} {K : Nat → Prop} : ∀ {k : Int}, rngK k K → (∀ n : Nat, k = (n : Int) → n ≤ 1000000000 → K n → p) → p
  | .ofNat n, h, f => f n rfl h.1 h.2
def iRange (P : PE) : PI := fun ρ μ Q Ex => P ρ μ (fun d μ' => need d.int? fun k => rngK k fun n => Q (rangeD n) μ') Ex
theorem it_range {target : Expr} {n : Nat} {t : Tok} {s₁ : Shared} (hA : A.handled = none) (h2 : n ≤ 1000000000) :
    IterOk G A θ X { s₁ with heap := s₁.heap.push { cls := .type "range", data := .fields #[.int 0 s₁.toks, .int n t, .int 1 (s₁.toks + 1)] }, toks := s₁.toks + 1 + 1 } { s₁ with heap := s₁.heap.push { cls := .type "range", data := .fields #[.int 0 s₁.toks, .int n t, .int 1 (s₁.toks + 1)] }, toks := s₁.toks + 1 + 1 } target (.ref s₁.heap.objs.size) (rangeD n) := by
  intro Q' E' kk
  refine wpAny_pyIter_range (IsRange.new ..) (small_one (by decide) (by decide) (by omega) (by omega)) ?_
  have hsz : Builtin.Range.rangeSize 0 n 1 = (n : Int) := by rw [rangeSize_one]; split <;> omega
  rw [hsz]
  generalize s₁.heap.push { cls := .type "range", data := .fields #[.int 0 s₁.toks, .int n t, .int 1 (s₁.toks + 1)] } = H at kk
  have Wk := (Walks.range (prog := G.prog) (w := G.w) (A := A) hA H.objs.size 0 1 n).bound
  have lr := rangeD_length n
  refine kk _ { s₁ with heap := H.push { cls := .type "range_iterator", data := .fields #[rawInt 0, rawInt (n : Int), rawInt 1] }, toks := s₁.toks + 1 + 1 } _ _ _ (turns_of (lr.symm ▸ Wk) (fun i v hv => ?_) fun i h st => ⟨_, _, _, st, rfl, rfl, by decide +kernel⟩) ?_ (.push _) rfl (fun c hc => by rw [List.mem_singleton.mp hc]; exact ⟨Nat.le_refl _, by rw [Heap.size_push]; exact Nat.lt_succ_self _⟩) (fun c hc => .inl hc)
  · obtain ⟨hlt, u, rfl⟩ := hv
    refine ⟨_, rangeD_get (lr ▸ hlt), ?_⟩
    rw [show 0 + (i : Int) * 1 = i by omega]
    exact .int _ _
  · have := Heap.get?_push_size H (o := { cls := .type "range_iterator", data := .fields #[rawInt 0, rawInt (n : Int), rawInt 1] }) rfl
    show (H.push _).get? _ = some _
    rw [this, lr]
    rfl
theorem IT_range (O : G.Ok) {target e : Expr} {P : PE} {np pos} (he : EV G b fs ns e P) (hn : noStar [e] = true) (hx : fs.sc.names.lookup ("range" : Str) = some .globalImplicit) (hg : nsIn G.K mainGlobals ("range" : Str) = some none) (hv : bootBuiltins ("range" : Str) = some (.type "range")) :
    IT G b fs ns target (.Call (.Name "range" np) [e] [] pos) (iRange P) := fun A env θ X s ρ μ Q Ex hA ho S p => by
  obtain ⟨_, _, T⟩ := O.T
  refine wpAny_Call_Name_kw (Name_function_global S.eo.kind (by unfold Env.kindOf; rw [ho.1]; exact hx) (loadGlobal_builtin (env := env) (by rw [S.eo.glob]; exact T.g.keeps S.inv.base) (mg_none_of O.X T.g hg) (by rw [ho.2.2.2.1]; exact T.b.keeps S.inv.base) ((T.builtins "range" (by decide)).trans hv) ?_) (by decide))
  refine callWith_any (G := G) (P := fun _ => True) hn (fun h _ => keeper_plain rfl h) ?_
  show wpAny _ _ (spliced ((false, eval e env) :: [])) _ _ _
  refine spliced_cons (he.go hA ho S p (fun v s₁ θ₁ X₁ d₁ μ₁ e₁ S₁ R₁ q₁ r₁ => spliced_nil ⟨trivial, ?_⟩) fun _ _ q => q)
  refine need.elim q₁ fun k hk q => rngK.elim q fun n hn h2 q₂ => ?_
  obtain ⟨t, rfl⟩ := R₁.ofInt hk
  subst hn
  have k : Kp [] [] s₁.heap (s₁.heap.push { cls := .type "range", data := .fields #[.int 0 s₁.toks, .int n t, .int 1 (s₁.toks + 1)] }) := .push _
  exact call_range_1 (.mk _ θ₁ X₁ (rangeD n) μ₁ (e₁.trans (.stays k)) (S₁.stays k) (it_range hA.1 h2) q₂ (r₁.trans rfl))
end
end Mine
namespace Mine
open PySem PySem.W PySem.Calls PyProof.Rows

section
variable {G : Gr} {b : Nat} {fs : Fs} {ns : List Str} {A : Around} {env : Env} {θ X θ' X' θ'' X'' : List Addr} {h h' h'' hs : Heap} {ρ ρ' : List (Option D)} {μ : List MO} {s s' : Shared} {W : List Addr}

theorem kp_keep {h h' : Heap} (hk : ∀ b o, h.get? b = some o → h'.get? b = some o) (hz : h.objs.size ≤ h'.objs.size) : Kp [] [] h h' := .of_all hz fun b o e _ => hk b o e

/-! ## the built-in functions -/
def one1 : List D → Option D
  | [d] => some d
  | _ => none
theorem one1_eq {ds : List D} {d : D} (e : one1 ds = some d) : ds = [d] := by
  cases ds with
  | nil => exact non e
  | cons a r => cases r with
    | nil => exact congrArg (fun x => [x]) (Option.some.inj e)
    | cons => exact non e
theorem Reps.one {vals : List Value} {ds : List D} {d : D} (R : Reps G h θ X vals ds) (e : one1 ds = some d) : ∃ v, vals = [v] ∧ Rep G h θ X v d := by
  cases one1_eq e
  obtain ⟨R, rfl⟩ := R
  exact ⟨_, rfl, R⟩
/-- a function of one argument -/
def N1 (T : List MO → D → (D → Prop) → Prop) : TN := fun μ ds Q => need (one1 ds) fun d => T μ d Q
theorem op_one {f : Value} {T : List MO → D → (D → Prop) → Prop} (H : ∀ {A : Around} {θ X : List Addr} {s : Shared} {μ : List MO} {v : Value} {d : D} {Q : D → Prop}, AOk A b → (∀ b o, G.h₀.get? b = some o → s.heap.get? b = some o) → Muts G s.heap θ X μ → Rep G s.heap θ X v d → T μ d Q → VOk G A θ X s (call f [v]) Q) : OpN G b f (N1 T) :=
  fun A θ X s μ vals ds Q hA hb hl hM R p => need.elim p fun d e p => (R.one e).elim fun v h => h.1 ▸ H hA hb hM h.2 p
def lenK (n : Nat) (Q : D → Prop) : Prop := guard (Nat.ble n 1000000000) (Q (.int (n : Int)))
def tLen : TN := N1 fun μ d Q => match d with
  | .bytes l => lenK l.length Q
  | .tup l => lenK l.length Q
  | d => need (viewL μ d) fun l => lenK l.length Q
theorem op_len : OpN G b (.builtin "len") tLen := op_one fun {A θ X s μ v d Q} hA hb hM R p => by
  have lst : ∀ d, Rep G s.heap θ X v d → need (viewL μ d) (fun l => lenK l.length Q) → VOk G A θ X s (call (.builtin "len") [v]) Q := fun d R p => p.elim fun l hv p => by
    obtain ⟨e, r⟩ := viewL_rep R hM hv
    have hz := List.size_toArray.trans r.length
    obtain ⟨h1, p⟩ := guard.le p
    exact Calls.call_len_list ⟨_, e, rfl, _, rfl⟩ (by rw [hz]; omega) ⟨_, .int _ _, .refl, hz ▸ p, rfl⟩
  cases d with
  | bytes l =>
    obtain ⟨t, rfl⟩ := R
    obtain ⟨h1, p⟩ := guard.le p
    exact len_bytes (Nat.le_trans h1 (by decide)) ⟨_, .int _ _, .refl, p, rfl⟩
  | tup l =>
    obtain ⟨e, n, r⟩ := R
    have hz := List.size_toArray.trans r.length
    obtain ⟨h1, p⟩ := guard.le p
    exact len_tuple ⟨_, e, rfl, _, rfl⟩ (by rw [hz]; omega) ⟨_, .int _ _, .refl, hz ▸ p, rfl⟩
  | _ => exact lst _ R p

def intsD : List D → Option (List Int)
  | [] => some []
  | d :: r => d.int?.bind fun i => (intsD r).map (i :: ·)
theorem ints_rep : ∀ {ds : List D} {is : List Int} {vs : List Value}, intsD ds = some is → Reps G h θ X vs ds → IntsAre vs is
  | [], _, _, e, R => by cases e; cases R; exact .nil
  | d :: r, _, _, e, .mk R₀ R => by
    obtain ⟨i, hi, e⟩ := Option.bind_eq_some_iff.mp e
    obtain ⟨js, e1, rfl⟩ := Option.map_eq_some_iff.mp e
    obtain ⟨t, rfl⟩ := R₀.ofInt hi
    exact .cons _ _ (ints_rep e1 R)
theorem intsD_map : ∀ is : List Int, intsD (is.map D.int) = some is
  | [] => rfl
  | i :: r => congrArg (Option.map (i :: ·)) (intsD_map r)

def tSum : TN := N1 fun μ d Q => need (viewL μ d) fun l => need (intsD l) fun is => Q (.int is.sum)
theorem op_sum : OpN G b (.builtin "sum") tSum := op_one fun {A θ X s μ v d Q} hA hb hM R p => need.elim p fun l hv p => need.elim p fun is hi p => by
  obtain @⟨a, vs, n, e, r⟩ := viewL_rep R hM hv
  have hi' := ints_rep hi r
  obtain ⟨xs, hx⟩ := hi'.allInts.items
  have hl' : s.heap.IsList a (intItems xs) := hx ▸ ⟨_, e, rfl, _, rfl⟩
  refine wpAny_size (sum_intListG hA.1 hl' fun h' tk t' hk hz => ?_)
  have e1 : is = xs.toList.map (·.1) := hi'.numsOf.symm.trans ((congrArg (fun a => numsOf (Array.toList a)) hx).trans (nums_intItems _))
  rw [preSum_eq, List.take_of_length_le (Nat.le_of_eq ((List.length_map _).trans Array.length_toList)), ← e1]
  exact ⟨_, .int _ _, kp_keep hk hz, p, rfl⟩

def two2 : List D → Option (D × D)
  | [d, e] => some (d, e)
  | _ => none
theorem two2_eq {ds : List D} {z : D × D} (e : two2 ds = some z) : ds = [z.1, z.2] := by
  cases ds with
  | nil => exact non e
  | cons a r => cases r with
    | nil => exact non e
    | cons b r => cases r with
      | nil => exact Option.some.inj e ▸ rfl
      | cons => exact non e
theorem Reps.two {vals : List Value} {ds : List D} {z : D × D} (R : Reps G h θ X vals ds) (e : two2 ds = some z) : ∃ v w, vals = [v, w] ∧ Rep G h θ X v z.1 ∧ Rep G h θ X w z.2 := by
  cases two2_eq e
  obtain ⟨R, ⟨R', rfl⟩⟩ := R
  exact ⟨_, _, rfl, R, R'⟩
def minI : Int → Int → Int
  | .ofNat m, .ofNat n => .ofNat (min m n)
  | a, b => if b < a then b else a
theorem minI_eq : ∀ a b, minI a b = if b < a then b else a
  | .ofNat m, .ofNat n => by
    show ((min m n : Nat) : Int) = if (n : Int) < (m : Int) then (n : Int) else (m : Int)
    split <;> omega
  | .negSucc _, _ => rfl
  | .ofNat _, .negSucc _ => rfl
def tMin : TN := fun μ ds Q => need (two2 ds) fun z => need z.1.int? fun a => need z.2.int? fun b => Q (.int (minI a b))
theorem op_min : OpN G b (.builtin "min") tMin := fun A θ X s μ vals ds Q hA hb hl hM R p => need.elim p fun z e p => by
  obtain ⟨v, w, rfl, R₀, R₁⟩ := R.two e
  refine two_ints R₀ R₁ p (C := fun v w => VOk G A θ X s (call (.builtin "min") [v, w]) Q) fun a b t u p => ?_
  refine wpAny_size (min_two_ints hA.1 fun h' tk hk hz => ⟨_, ?_, kp_keep hk hz, p, rfl⟩)
  rw [minI_eq]
  split <;> exact .int _ _

def b2n : Bool → Nat
  | true => 1
  | false => 0
def D.bool? : D → Option Bool
  | .bool c => some c
  | _ => Option.none
theorem D.ofBool {d : D} {c : Bool} (e : d.bool? = some c) : d = .bool c := by
  cases d with
  | bool => exact congrArg D.bool (Option.some.inj e)
  | _ => exact non e
def tIntB : TN := N1 fun _ d Q => need d.bool? fun c => Q (.int (b2n c : Int))
theorem op_intB : OpN G b (.type "int") tIntB := op_one fun {A θ X s μ v d Q} hA hb hM R p => need.elim p fun c e p => by
  cases D.ofBool e
  cases R
  exact call_int_bool ⟨_, .int _ _, .refl, by cases c <;> exact p, rfl⟩

/-- octets, as a list of ints tells them -/
def octsI : List Int → Option (List UInt8)
  | [] => some []
  | .ofNat n :: r => if n < 256 then (octsI r).map (n.toUInt8 :: ·) else none
  | .negSucc _ :: _ => none
theorem octsI_eq : ∀ {is : List Int} {l : List UInt8}, octsI is = some l → (∀ n ∈ is, 0 ≤ n ∧ n < 256) ∧ l = is.map fun n => n.toNat.toUInt8
  | [], _, e => ⟨(fun _ q => nomatch q), (Option.some.inj e).symm⟩
  | .ofNat n :: r, l, e => by
    unfold octsI at e
    split at e
    · rename_i hn
      obtain ⟨l', e1, rfl⟩ := Option.map_eq_some_iff.mp e
      obtain ⟨a, rfl⟩ := octsI_eq e1
      exact ⟨fun m hm => (List.mem_cons.mp hm).elim (fun q => q ▸ ⟨Int.natCast_nonneg n, Int.ofNat_lt.mpr hn⟩) (a m), rfl⟩
    · exact non e
  | .negSucc _ :: _, _, e => non e
def tBytes : TN := N1 fun μ d Q => match d with
  | .bytes l => Q (.bytes l)
  | d => need (viewL μ d) fun l => need (intsD l) fun is => need (octsI is) fun o => guard (Nat.ble is.length 16777216) (Q (.bytes o))
theorem bytes_same {prog : Program} {w : World} {E : Value → Shared → Prop} {x : Array UInt8} {t : Tok} {Q : Value → Shared → Prop} (hq : Q (.bytes x t) s) : wpAny (model prog w) A (call (.type "bytes") [.bytes x t]) Q E s := by
  refine callType_codes (Q₁ := fun obj s₁ => s₁.TypeIs obj "bytes" ∧ Q obj s₁) F.bm_called (F.bm_typeCall _) F.entry_object_init ?_ fun obj s₁ h₁ => ⟨h₁.1, F.args_object_init_2 obj _, object_init_meets F.bm_called.init.lookup F.bm_called.made (by decide) prog w A.in1 _ s₁ ⟨h₁.1, rfl, h₁.2⟩⟩
  refine codeAny_of_tree ?_
  show wpAny _ _ (do checkBuiltinCall "bytes.__new__" ⟨[.type "bytes", .bytes x t], []⟩; again (.builtin "bytes.__new__" ⟨[.type "bytes", .bytes x t], []⟩)) _ _ s
  refine wpAny_bind (wpAny_of_eq (F.bm_newCall _) (wpAny_pure ⟨plainId_quiet F.bm_plain _, codeAny_builtin F.bm_entry ?_⟩))
  have hT : s.TypeIs (.bytes x t) "bytes" := typeIs_bytes _ _ _
  have hb : typeLookup (.type "bytes") "__bytes__" = pure (some (.builtin "bytes.__bytes__")) := by rw [typeLookup_type, builtinLookup_eq_fast]; kernel_rfl
  unfold Builtin.«bytes.__new__»
  refine wpAny_bind (wpAny_of_eq (a := true) rfl ?_)
  refine bm_if_false rfl ?_
  refine wpAny_bind (wpAny_of_eq F.bm_sub ?_)
  refine bm_if_false rfl ?_
  refine wpAny_bind (wpAny_of_eq (F.bm_bind _) ?_)
  refine wpAny_bind (wpAny_of_eq (a := ()) rfl ?_)
  refine wpAny_bind (wpAny_of_eq (a := ()) rfl ?_)
  refine bm_if_false rfl ?_
  refine wpAny_bind (wpAny_specialOf hT hb ?_)
  refine wpAny_bind (wpAny_rule (wpAny_bind (wpAny_of_eq (a := .type "bytes") rfl ?_)))
  refine bm_if_true (by decide) ?_
  refine bm_if_true (by decide) ?_
  first
    | exact wpAny_pure ⟨hT, hq⟩
    | exact wpAny_bind (wpAny_pure (wpAny_pure ⟨hT, hq⟩))
theorem op_bytes : OpN G b (.type "bytes") tBytes := op_one fun {A θ X s μ v d Q} hA hb hM R p => by
  have lst : ∀ d, Rep G s.heap θ X v d → need (viewL μ d) (fun l => need (intsD l) fun is => need (octsI is) fun o => guard (Nat.ble is.length 16777216) (Q (.bytes o))) → VOk G A θ X s (call (.type "bytes") [v]) Q := fun d R p => p.elim fun l hv p => need.elim p fun is hi p => need.elim p fun o ho p => by
    obtain ⟨e, r⟩ := viewL_rep R hM hv
    have hi' := ints_rep hi r
    obtain ⟨h1, p⟩ := guard.le p
    obtain ⟨h2, rfl⟩ := octsI_eq ho
    exact wpAny_size (call_bytes_ints ⟨_, e, rfl, _, rfl⟩ hi' h2 (by rw [hi'.length, sizeLine_eq]; exact h1) hA.1 fun h' t k hk hz => ⟨_, .bytes _ _, kp_keep hk hz, p, rfl⟩)
  cases d with
  | bytes l =>
    obtain ⟨t, rfl⟩ := R
    exact bytes_same ⟨_, .bytes _ _, .refl, p, .refl⟩
  | _ => exact lst _ R p

/-! ## isinstance -/
def isD : D → Ty → Option Bool
  | .int _, .int => some true
  | .int _, _ => some false
  | .str _, .str => some true
  | .list _, .str => some false
  | .tup _, .str => some false
  | .inst _ _, .str => some false
  | _, _ => none
def D.ty? : D → Option Ty
  | .ty c => some c
  | _ => Option.none
theorem D.ofTy {d : D} {c : Ty} (e : d.ty? = some c) : d = .ty c := by
  cases d with
  | ty => exact congrArg D.ty (Option.some.inj e)
  | _ => exact non e
def tIsi : TN := fun μ ds Q => need (two2 ds) fun z => need z.2.ty? fun t => need (isD z.1 t) fun c => Q (.bool c)
structure IsiOk (G : Gr) (c : Cls) : Prop where
  get : plainGet G.K (G.cA c) "__class__" = true
  dict : hasDictIn G.K (G.cA c) = true
  cls : findIn G.K (.ref (G.cA c)) "__class__" = some (some (.builtin "object.__class__"))
  spec : specialIn G.K (.builtin "object.__class__") "__get__" = some (some (.builtin "getset_descriptor.__get__"))
  takes : takesIn G.K (.builtin "object.__class__") = some true
  mro : mroIn G.K (G.cA c) (.type "object") = some true
  one : kitOne G.K (.ref (G.cA c)) (.type "str") = some false
theorem op_isi (O : G.Ok) (I : ∀ c, IsiOk G c) : OpN G b (.builtin "isinstance") tIsi := fun A θ X s μ vals ds Q hA hb hl hM R p => need.elim p fun z e p => need.elim p fun t ht p => need.elim p fun c hc p => by
  obtain ⟨v, w, rfl, R₀, R₁⟩ := R.two e
  rw [D.ofTy ht] at R₁
  cases R₁
  have X' := O.X.keeps hb
  have fin : ∀ tk, VPost G θ X s Q (.bool c) { s with toks := tk } := fun tk => ⟨_, .bool _, .refl, p, rfl⟩
  generalize z.1 = d at hc R₀
  cases d with
  | int i =>
    obtain ⟨u, rfl⟩ := R₀
    cases t <;> cases hc <;> exact kia_one (kitx_int (K := G.K)) X' trivial (by kernel_rfl) (fun e => nomatch e) fin
  | str i =>
    obtain ⟨u, rfl⟩ := R₀
    cases t with
    | str => cases hc; exact kia_one (kitx_str (K := G.K)) X' trivial (by kernel_rfl) (fun e => nomatch e) fin
    | _ => exact non hc
  | list =>
    obtain ⟨e, n, r⟩ := R₀
    cases t with
    | str => cases hc; exact kia_one (kitx_list (K := G.K)) X' ⟨_, e, rfl⟩ (by kernel_rfl) (fun e => nomatch e) fin
    | _ => exact non hc
  | tup =>
    obtain ⟨e, n, r⟩ := R₀
    cases t with
    | str => cases hc; exact kia_one (kitx_tuple (K := G.K)) X' ⟨_, e, rfl⟩ (by kernel_rfl) (fun e => nomatch e) fin
    | _ => exact non hc
  | inst c' =>
    obtain ⟨e, e', n, n', l, r, z⟩ := R₀
    have J := I c'
    cases t with
    | str => cases hc; exact kia_one (kitx_own (K := G.K) (od := _) J.get J.dict J.cls J.spec J.takes J.mro) X' (inst_at e e') J.one (fun e => nomatch e) fin
    | _ => exact non hc
  | _ => exact non hc
end
end Mine
namespace Mine
open PySem PySem.W PySem.Calls PyProof.Rows

section
variable {G : Gr} {b : Nat} {fs : Fs} {ns : List Str} {A : Around} {env : Env} {θ X θ' X' θ'' X'' : List Addr} {h h' h'' hs : Heap} {ρ ρ' : List (Option D)} {μ : List MO} {s s' : Shared} {W : List Addr}

/-! ## a field stored -/
theorem mkEs_refKey {P : Params} : ∀ (ns : List Str) (ts : List Tok) (vs : List Value), (mkEs P ns ts vs).any (·.refKey) = false
  | n :: ns, t :: ts, v :: vs => mkEs_refKey ns ts vs
  | [], _, _ => rfl
  | _ :: _, [], _ => rfl
  | _ :: _, _ :: _, [] => rfl
theorem mkEs_length {P : Params} : ∀ (ns : List Str) (ts : List Tok) (vs : List Value), (mkEs P ns ts vs).length ≤ ns.length
  | n :: ns, t :: ts, v :: vs => Nat.succ_le_succ (mkEs_length ns ts vs)
  | [], _, _ => Nat.le_refl _
  | _ :: _, [], _ => Nat.zero_le _
  | _ :: _, _ :: _, [] => Nat.zero_le _
theorem putL_hit {P : Params} {nm : Str} {hsh : Int} {k v w : Value} {t : Tok} {ns : List Str} {ts : List Tok} {vs : List Value} : putL nm hsh k v (mkEs P (nm :: ns) (t :: ts) (w :: vs)) = mkEs P (nm :: ns) (t :: ts) (v :: vs) := by
  show (if (nm == nm) = true then _ else _) = _
  rw [if_pos (beq_self_eq_true nm)]; rfl
theorem putL_miss {P : Params} {nm n : Str} {hsh : Int} {k v w : Value} {t : Tok} {ns : List Str} {ts : List Tok} {vs : List Value} (h : nm ∉ n :: ns ∨ n ≠ nm) : putL nm hsh k v (mkEs P (n :: ns) (t :: ts) (w :: vs)) = ⟨PyData.keyHash P n, .str n t, w⟩ :: putL nm hsh k v (mkEs P ns ts vs) := by
  have hne : ¬ (n == nm) = true := fun q => have e := (beq_iff_eq (a := n) (b := nm)).mp q; h.elim (fun z => z (e ▸ .head _)) fun z => z e
  show (if (n == nm) = true then _ else _) = _
  rw [if_neg hne]
theorem ne_of_nd {n nm : Str} {ns : List Str} {i : Nat} (nd : (n :: ns).Nodup) (h : ns[i]? = some nm) : n ≠ nm := fun q => (List.nodup_cons.mp nd).1 (q ▸ List.mem_of_getElem? h)
theorem putL_set {P : Params} {nm : Str} {hsh : Int} {k v : Value} : ∀ {ns : List Str} {ts : List Tok} {vs : List Value} {i : Nat}, ns.Nodup → ns[i]? = some nm → i < vs.length → ts.length = vs.length → putL nm hsh k v (mkEs P ns ts vs) = mkEs P ns ts (vs.set i v)
  | n :: ns, t :: ts, w :: vs, 0, _, h1, _, _ => Option.some.inj h1 ▸ putL_hit
  | n :: ns, t :: ts, w :: vs, i + 1, nd, h1, h2, hl => (putL_miss (.inr (ne_of_nd (i := i) nd h1))).trans (congrArg (_ :: ·) (putL_set (List.nodup_cons.mp nd).2 h1 (Nat.lt_of_succ_lt_succ h2) (Nat.succ.inj hl)))
  | [], _, _, _, _, h1, _, _ => nil_get' h1
  | _ :: _, [], _ :: _, _, _, _, _, hl => nomatch hl
  | _ :: _, _, [], _, _, _, h2, _ => absurd h2 (Nat.not_lt_zero _)
theorem mkEs_nil {P : Params} {ns : List Str} : mkEs P ns [] [] = [] := by cases ns <;> rfl
theorem putL_app {P : Params} {nm : Str} {v : Value} {tk : Tok} : ∀ {ns : List Str} {ts : List Tok} {vs : List Value}, ns.Nodup → ns[vs.length]? = some nm → ts.length = vs.length →
    putL nm (PyData.keyHash P nm) (.str nm tk) v (mkEs P ns ts vs) = mkEs P ns (ts ++ [tk]) (vs ++ [v])
  | n :: ns, t :: ts, w :: vs, nd, h1, hl => (putL_miss (.inr (ne_of_nd (i := vs.length) nd h1))).trans (congrArg (_ :: ·) (putL_app (List.nodup_cons.mp nd).2 h1 (Nat.succ.inj hl)))
  | n :: ns, [], [], _, h1, _ => by
    cases Option.some.inj h1
    exact congrArg (⟨PyData.keyHash P nm, .str nm tk, v⟩ :: ·) (mkEs_nil (P := P) (ns := ns)).symm
  | [], _, _, _, h1, _ => nil_get' h1
  | _ :: _, [], _ :: _, _, _, hl => nomatch hl
  | _ :: _, _ :: _, [], _, _, hl => nomatch hl

def setF (l : List D) (i : Nat) (x : D) : Option (List D) := match Nat.ble (i + 1) l.length with
  | true => some (l.set i x)
  | false => match Nat.beq i l.length with
    | true => some (l ++ [x])
    | false => none
theorem setF_eq {l l' : List D} {i : Nat} {x : D} (h : setF l i x = some l') : (i < l.length ∧ l' = l.set i x) ∨ (i = l.length ∧ l' = l ++ [x]) := by
  unfold setF at h
  cases e : Nat.ble (i + 1) l.length with
  | true => rw [e] at h; exact .inl ⟨Nat.le_of_ble_eq_true e, (Option.some.inj h).symm⟩
  | false =>
    rw [e] at h
    cases e' : Nat.beq i l.length with
    | true => rw [e'] at h; exact .inr ⟨Nat.eq_of_beq_eq_true e', (Option.some.inj h).symm⟩
    | false => rw [e'] at h; exact non h
theorem Reps.set {v : Value} {d : D} (r : Rep G h θ X v d) : ∀ {ds : List D} {vs : List Value} (i : Nat), Reps G h θ X vs ds → Reps G h θ X (vs.set i v) (ds.set i d)
  | [], _, _, e => by cases e; exact Reps.nil
  | _ :: _, _, 0, .mk _ b => .mk r b
  | _ :: _, _, i + 1, .mk a b => .mk a (Reps.set r i b)
/-- the new fields, as the dict holds them -/
theorem fields_put {P : Params} {c : Cls} {ts : List Tok} {vs : List Value} {l l' : List D} {i : Nat} {nm : Str} {w : Value} {y : D} {tk : Tok} (nd : c.names.Nodup) (hi : c.names[i]? = some nm) (l1 : ts.length = vs.length) (l2 : vs.length ≤ c.names.length) (r : Reps G h [] X vs l) (r0 : Rep G h [] X w y) (hl : setF l i y = some l') :
    ∃ ts' vs', putL nm (PyData.keyHash P nm) (.str nm tk) w (mkEs P c.names ts vs) = mkEs P c.names ts' vs' ∧ ts'.length = vs'.length ∧ vs'.length ≤ c.names.length ∧ Reps G h [] X vs' l' := by
  rcases setF_eq hl with ⟨hlt, rfl⟩ | ⟨hq, rfl⟩
  · exact ⟨ts, vs.set i w, putL_set nd hi (r.length ▸ hlt) l1, l1.trans List.length_set.symm, Nat.le_trans (Nat.le_of_eq List.length_set) l2, Reps.set r0 i r⟩
  · have hi : c.names[vs.length]? = some nm := (hq.trans r.length.symm) ▸ hi
    refine ⟨ts ++ [tk], vs ++ [w], putL_app nd hi l1, ?_, ?_, r.append (Reps.cons r0 Reps.nil)⟩
    · rw [List.length_append, List.length_append, l1]; rfl
    · rw [List.length_append]
      exact (List.getElem?_eq_some_iff.mp hi).1

theorem setattr_own (O : G.Ok) {c : Cls} (C : ClsOk G c) {x dx : Addr} {k i : Nat} {nm : Str} {w : Value} {y : D} {l l' : List D} {E : Value → Shared → Prop} {Q : Unit → Shared → Prop} (S : Stt G A env ns θ X s.heap ρ μ) (ea : θ[k]? = some dx) (hx : s.heap.get? x = some (instObj (G.cA c) dx))
    (hm : μ[k]? = some (.inst c l)) (hi : c.names[i]? = some nm) (R : Rep G s.heap θ X w y) (hc : clD y = true) (hl : setF l i y = some l')
    (h : ∀ s', Ext G A θ X s.heap θ X s'.heap → Stt G A env ns θ X s'.heap ρ (μ.set k (.inst c l')) → Rest s s' → Q () s') : wpAny G.M A (setAttr (.ref x) nm w) Q E s := by
  obtain @⟨n, ts, vs, D, l1, l2, r⟩ : MI G s.heap X dx c l := S.muts.2 _ _ _ ea hm
  have X' := O.X.keeps S.inv.base
  have hnm := List.mem_of_getElem? hi
  have I := inst_at hx D
  refine set_plain X' I C.set ?_
  refine osa_open (s := { s with toks := s.toks + 1 }) X' I C.over (C.taker nm hnm) fun b => ?_
  obtain ⟨cd, hcd, hd'⟩ := any_some C.dict
  refine wpAny_bind (wpAny_pure (wpAny_bind (wpAny_bind (wpAny_loadPart hx (wpAny_bind (Looks.here (s := { s with toks := s.toks + 1 }) (looks_clsIn X' hcd) ?_))))))
  rw [hd']
  refine wpAny_pure (a := some dx) (wpAny_bind (wpAny_pure (wpAny_bind ?_)))
  unfold nsSet
  refine wpAny_bind (wpAny_bind (wpAny_askSetting (wpAny_pure (wpAny_bind (wpAny_mkText (wpAny_bind (wpAny_loadPart D ?_)))))))
  dsimp only
  have cc : (!(mkEs G.w.params c.names ts vs).toArray.any (·.key.isStr nm) && (mkEs G.w.params c.names ts vs).toArray.any (·.refKey)) = false := by
    have z : (mkEs G.w.params c.names ts vs).toArray.any (·.refKey) = false := by rw [← Array.any_toList]; exact mkEs_refKey _ _ _
    rw [z, Bool.and_false]
  rw [aRefKeyMayBeTheName_at, cc]
  obtain ⟨ts', vs', hp, l1', l2', r'⟩ := fields_put (P := G.w.params) (tk := s.toks + 1) C.nd hi l1 l2 r (R.uncl hc) hl
  have D' := Heap.get?_update_self (Obj.putName nm (PyData.keyHash G.w.params nm) (.str nm (s.toks + 1)) w) D (by rw [putName_dict]; rfl)
  rw [putName_dict, hp] at D'
  refine wpAny_updatePart D ?_
  refine wpAny_bind (wpAny_lookBehind D' (pastItsLine_dict (by
    rw [List.size_toArray, sizeLine_eq]
    have z1 := mkEs_length (P := G.w.params) c.names ts' vs'
    have z2 : c.names.length ≤ 10 := by cases c <;> decide
    omega)) ?_)
  have kp : Kp [dx] [] s.heap (s.heap.update dx (Obj.putName nm (PyData.keyHash G.w.params nm) (.str nm (s.toks + 1)) w)) := .update (.head _)
  obtain ⟨S', e'⟩ := S.write (mo' := .inst c l') ea hm kp (.mk D' l1' l2' (r'.kp kp (fun c q => List.mem_singleton.mp q ▸ S.own.inX dx (.inl (List.mem_of_getElem? ea))) (fun _ q => nomatch q) (fun _ _ e => e) fun _ q => .inl q))
  exact wpAny_pure (h _ e' S' rfl)

def D.hi? (c : Cls) : D → Option Nat
  | .hi k c' => match c'.same c with
    | true => some k
    | false => Option.none
  | _ => Option.none
theorem Rep.ofHi {c : Cls} {v : Value} {d : D} {k : Nat} (e : d.hi? c = some k) (R : Rep G h θ X v d) : RHi G h θ X k c v := by
  cases d with
  | hi k' c' =>
    have e2 : (match c'.same c with | true => some k' | false => Option.none) = some k := e
    cases q : c'.same c with
    | true =>
      rw [q] at e2
      cases Cls.eq_of_same q
      exact Option.some.inj e2 ▸ R
    | false => rw [q] at e2; exact non e2
  | _ => exact non e
theorem mo_inst {mo : MO} {c : Cls} {l : List D} (e : mo.inst? c = some l) : mo = .inst c l := by
  cases mo with
  | inst =>
    obtain ⟨rfl, rfl⟩ := fldsOf_eq e
    rfl
  | _ => exact non e
theorem mu_inst {k : Nat} {c : Cls} {l : List D} (e : μ[k]?.bind (MO.inst? c) = some l) : μ[k]? = some (.inst c l) := by
  obtain ⟨mo, hm, e⟩ := Option.bind_eq_some_iff.mp e
  exact mo_inst e ▸ hm
/-- o.name = value -/
def wAttr (c : Cls) (i : Nat) (P R : PE) : PS := fun ρ μ Nx _ Ex => P ρ μ (fun y μ₁ => R ρ μ₁ (fun d μ₂ => need (d.hi? c) fun k => need (μ₂[k]?.bind (MO.inst? c)) fun l => guard (clD y) (need (setF l i y) fun l' => Nx ρ (μ₂.set k (.inst c l')))) Ex) Ex
theorem SV_attr (O : G.Ok) {c : Cls} (C : ClsOk G c) {i : Nat} {nm : Str} {x y : Expr} {P R : PE} {p' pos} (hy : EV G b fs ns y P) (hx : EV G b fs ns x R) (hi : c.names[i]? = some nm) (hs : ∀ env, fs.ok env → swapsWith y (some (.Attribute x nm p')) pos.line env = pure false) :
    SV G b fs ns (.Assign [.Attribute x nm p'] y pos) (wAttr c i P R) := fun A env θ X s ρ μ Nx Rt Ex hA he hF S p =>
  plainObj_wpAny_Assign_Attribute (hy.go hA he S p (fun w s₁ θ₁ X₁ y μ₁ e₁ S₁ R₁ q₁ r₁ => hx.go hA he S₁ q₁ (fun v s₂ θ₂ X₂ d μ₂ e₂ S₂ R₂ q₂ r₂ =>
    need.elim q₂ fun k hd q₂ => need.elim q₂ fun l hm q₂ => by
      obtain ⟨hc, q₂⟩ := guard.out q₂
      refine need.elim q₂ fun l' hl q₂ => ?_
      obtain ⟨ea, hx', n⟩ := R₂.ofHi hd
      exact setattr_own O C S₂ ea hx' (mu_inst hm) hi (R₁.ext S₁.own e₂) hc hl fun s₃ e₃ S₃ r₃ => ⟨θ₂, X₂, ρ, _, ((e₁.trans e₂).trans e₃).toS, S₃, q₂, (r₁.trans r₂).trans r₃⟩) fun _ _ q => (q.rebase e₁ r₁).toS) fun _ _ q => q.toS) (hs env he)

/-- o.name += value -/
def wAugAttr (c : Cls) (i : Nat) (R P : PE) (T : T2) : PS := fun ρ μ Nx _ Ex => R ρ μ (fun d μ₁ => need (d.hi? c) fun k => need (μ₁[k]?.bind (MO.inst? c)) fun l => need l[i]? fun x => guard x.notVal (P ρ μ₁ (fun y μ₂ => need (μ₂[k]?.bind (MO.inst? c)) fun l₂ =>
  T μ₂ x y fun z => guard (clD z) (need (setF l₂ i z) fun l' => Nx ρ (μ₂.set k (.inst c l')))) Ex)) Ex
theorem SV_augAttr (O : G.Ok) {c : Cls} (C : ClsOk G c) {i : Nat} {nm : Str} {x y : Expr} {P R : PE} {op : Operator} {T : T2} {p' pos} (hx : EV G b fs ns x R) (hy : EV G b fs ns y P) (hm : Op2 G b (inplaceOp op) T) (hi : c.names[i]? = some nm) :
    SV G b fs ns (.AugAssign (.Attribute x nm p') op y pos) (wAugAttr c i R P T) := fun A env θ X s ρ μ Nx Rt Ex hA he hF S p =>
  wpAny_AugAssign_AttributeAny (hx.go hA he S p (fun v s₁ θ₁ X₁ d μ₁ e₁ S₁ R₁ q₁ r₁ => need.elim q₁ fun k hd q₁ => need.elim q₁ fun l hmu q₁ => need.elim q₁ fun xd hxd q₁ => by
    obtain ⟨hnv, q₁⟩ := guard.out q₁
    obtain ⟨ea, hx', n⟩ := R₁.ofHi hd
    obtain ⟨D, l1, l2, r⟩ : MI G s₁.heap X₁ _ c l := S₁.muts.2 _ _ _ ea (mu_inst hmu)
    obtain ⟨w, hw, Rw⟩ := r.get hxd
    have hnm := List.mem_of_getElem? hi
    have X₁' := O.X.keeps S₁.inv.base
    refine get_value X₁' (inst_at hx' D) (plainGet_of (C.get nm hnm).1).1 (findObj_own C.dict (C.get nm hnm).2 rfl (by rw [lookIn_dict]; exact getL_mk C.nd hi hw l1)) (handed_rep Rw hnv) ?_
    have S₁' : Stt G A env ns θ₁ X₁ ({ s₁ with toks := s₁.toks + 1 } : Shared).heap ρ μ₁ := S₁
    refine hy.go hA he S₁' q₁ (fun w2 s₂ θ₂ X₂ y μ₂ e₂ S₂ R₂ q₂ r₂ => need.elim q₂ fun l₂ hm₂ q₂ => ?_) fun _ _ q => (q.rebase (s := s) (s₁ := { s₁ with toks := s₁.toks + 1 }) e₁ (r₁.trans .mkT)).toS
    refine wpAny_mono (hm A θ₂ X₂ s₂ μ₂ w w2 xd y _ hA S₂.inv.base S₂.own.lt S₂.muts (Rw.cl.ext S₁.own e₂) R₂ q₂) (fun z s₃ h₃ => ?_) fun _ _ f => f.elim
    obtain ⟨dz, Rz, k3, q₃, r₃⟩ := h₃
    obtain ⟨hcl, q₃⟩ := guard.out q₃
    refine need.elim q₃ fun l' hl' q₃ => ?_
    have hx₂ := k3.get (e₂.kp.get hx' (fun q => n (S₁.own.inX _ ((List.mem_append.mp q).elim .inl fun z => .inr (.inl z)))) fun q => n (S₁.own.FLX _ q)) (fun q => nomatch q) (fun q => nomatch q)
    exact setattr_own O C (S₂.stays k3) (e₂.th _ _ ea) hx₂ (mu_inst hm₂) hi Rz hcl hl' fun s₄ e₄ S₄ r₄ => ⟨θ₂, X₂, ρ, _, (((e₁.trans e₂).trans (.stays k3)).trans e₄).toS, S₄, q₃, (((r₁.trans .mkT).trans r₂).trans r₃).trans r₄⟩) fun _ _ q => q.toS)
end
end Mine
namespace Mine
open PySem PySem.W PySem.Calls PyProof.Rows

section
variable {G : Gr} {b : Nat} {fs : Fs} {ns : List Str} {A : Around} {env : Env} {θ X θ' X' θ'' X'' : List Addr} {h h' h'' hs : Heap} {ρ ρ' : List (Option D)} {μ : List MO} {s s' : Shared} {W : List Addr}

/-! ## an item stored -/
theorem mapSeq_set (its : Array Value) (n j : Nat) (v : Value) : Obj.mapSeq (·.setIfInBounds j v) (listOf its n) = listOf (its.setIfInBounds j v) n := by
  simp [Obj.mapSeq]
theorem setItem_own {l : Addr} {items : Array Value} {n : Nat} {k : Int} {t : Tok} {v : Value} {Q : Unit → Shared → Prop} {E : Value → Shared → Prop} {M : World} {prog : Program} (ho : s.heap.get? l = some (listOf items n))
    (h0 : 0 ≤ k) (hfit : k < 2 ^ 63) (hn : k < items.size)
    (hQ : ∀ h', h'.get? l = some (listOf (items.setIfInBounds k.toNat v) n) → Heap.SameBut l s.heap h' → Q () { s with heap := h' }) :
    wpAny (model prog M) A (setItem (.ref l) (.int k t) v) Q E s := by
  have hl : s.heap.IsList l items := ⟨_, ho, rfl, _, rfl⟩
  unfold setItem
  try with_reducible refine wpAny_holding ?_
  first | refine wpAny_bind (wpAny_pure ?_) | skip
  refine wpAny_bind (wpAny_sequenceKey hl.typeIs (by decide) ?_)
  refine wpAny_bind (wpAny_callSpecial?_slot (name := Str.ofString "__setitem__") hl.typeIs slot_list_setitem
    (wpAny_call_entry slot_list_setitem hl.typeIs entry_list_setitem ?_ (args_list_setitem _ _ _)))
  show wpAny _ _ (Builtin.List.listSubscript? (.int k t) >>= _) _ _ s
  refine wpAny_bind (wpAny_listSubscript_int (fitsIndex_of h0 hfit) ?_)
  clear hfit
  obtain ⟨j, rfl⟩ := Int.eq_ofNat_of_zero_le h0
  have hj : j < items.size := by omega
  have hx' : items[j]? = some items[j] := Array.getElem?_eq_getElem hj
  show wpAny _ _ ((seqItemAt l j >>= fun r => pure (r.map (j, ·))) >>= _) _ _ s
  refine wpAny_bind (wpAny_bind (wpAny_seqItemAt ho rfl (wpAny_pure ?_)))
  rw [hx']
  show wpAny _ _ (setSeqItemAt l j v >>= _) _ _ s
  have hfin : (s.heap.update l (Obj.mapSeq (·.setIfInBounds j v))).get? l = some (listOf (items.setIfInBounds j v) n) := by
    rw [Heap.get?_update_self _ ho (by rw [mapSeq_set]; rfl), mapSeq_set]
  refine wpAny_bind (wpAny_setSeqItemAt ho rfl ?_)
  first
    | exact wpAny_bind (wpAny_pure (wpAny_pure ⟨.none, rfl, wpAny_pure (hQ _ hfin (Heap.SameBut.update ..))⟩))
    | exact wpAny_pure ⟨.none, rfl, wpAny_pure (hQ _ hfin (Heap.SameBut.update ..))⟩

/-- o[i] = value, o a list that is one's own -/
def wItem (P R I : PE) : PS := fun ρ μ Nx _ Ex => P ρ μ (fun y μ₁ => R ρ μ₁ (fun d μ₂ => I ρ μ₂ (fun i μ₃ => need d.hl? fun k => need i.int? fun j => need (μ₃[k]?.bind MO.list?) fun l => rngK j fun j =>
  guard (Nat.ble (j + 1) l.length) (guard (Nat.ble l.length 1000000) (guard (clD y) (Nx ρ (μ₃.set k (.list (l.set j y))))))) Ex) Ex) Ex
theorem SV_item {x i y : Expr} {P R I : PE} {p' pos} (hy : EV G b fs ns y P) (hx : EV G b fs ns x R) (hi : EV G b fs ns i I) (hs : ∀ env, fs.ok env → swapsWith y (some (.Subscript x i p')) pos.line env = pure false) :
    SV G b fs ns (.Assign [.Subscript x i p'] y pos) (wItem P R I) := fun A env θ X s ρ μ Nx Rt Ex hA he hF S p =>
  wpAny_Assign_Subscript (hy.go hA he S p (fun w s₁ θ₁ X₁ y μ₁ e₁ S₁ R₁ q₁ r₁ => hx.go hA he S₁ q₁ (fun v s₂ θ₂ X₂ d μ₂ e₂ S₂ R₂ q₂ r₂ => hi.go hA he S₂ q₂ (fun u s₃ θ₃ X₃ i μ₃ e₃ S₃ R₃ q₃ r₃ =>
    need.elim q₃ fun k hd q₃ => need.elim q₃ fun j hj q₃ => need.elim q₃ fun l hm q₃ => rngK.elim q₃ fun j e _ q₃ => by
      obtain ⟨h1, q₃⟩ := guard.le q₃
      obtain ⟨h2, q₃⟩ := guard.le q₃
      obtain ⟨hc, q₃⟩ := guard.out q₃
      obtain ⟨ea⟩ := R₂.ofHl hd
      obtain ⟨t, rfl⟩ := R₃.ofInt (hj.trans (congrArg some e))
      have ea' := e₃.th _ _ ea
      obtain ⟨hm, hg, r⟩ := list_of_hl S₃.muts ea' hm
      refine setItem_own hg (Int.natCast_nonneg j) (by omega) (by rw [List.size_toArray, r.length]; exact Int.ofNat_lt.mpr h1) fun h' hg' sb => ?_
      have kp := Kp.sameBut (W := [_]) (F := []) sb (.head _)
      rw [List.setIfInBounds_toArray] at hg'
      obtain ⟨S₄, e₄⟩ := S₃.write (mo' := .list (l.set j y)) ea' hm kp (.mk hg' ((Reps.set (((R₁.ext S₁.own e₂).ext S₂.own e₃).uncl hc) _ r).kp kp (fun c q => List.mem_singleton.mp q ▸ S₃.own.inX _ (.inl (List.mem_of_getElem? ea'))) (fun _ q => nomatch q) (fun _ _ e => e) fun _ q => .inl q))
      exact ⟨θ₃, X₃, ρ, _, (((e₁.trans e₂).trans e₃).trans e₄).toS, S₄, q₃, ((r₁.trans r₂).trans r₃).trans .mkH⟩) fun _ _ q => (q.rebase (e₁.trans e₂) (r₁.trans r₂)).toS) fun _ _ q => (q.rebase e₁ r₁).toS) fun _ _ q => q.toS) (hs env he)

/-! ## lists joined, and asked for emptiness -/
def tCatL : T2 := fun μ d₁ d₂ Q => need (viewL μ d₁) fun a => need (viewL μ d₂) fun b => guard (Nat.ble (a.length + b.length) 1000000) (Q (.list (a ++ b)))
theorem op_catL : Op2 G b (binaryOp .Add) tCatL := fun A θ X s μ v₁ v₂ d₁ d₂ Q hA hb hl hM R₁ R₂ p => need.elim p fun a h1 p => need.elim p fun c h2 p => by
  obtain ⟨hz, p⟩ := guard.le p
  obtain @⟨l, vs, n, e1, r1⟩ := viewL_rep R₁ hM h1
  obtain @⟨l2, ws, n2, e2, r2⟩ := viewL_rep R₂ hM h2
  refine concat_meets ⟨_, e1, rfl⟩ ⟨_, e2, rfl⟩ noFill_list_add seq_list_add PySem.F.slot_list_add PySem.F.entry_list_add (PySem.F.args_list_add_2 _ _) (list_addW l l2 vs.toArray ws.toArray n n2 none none #[] #[] (by rw [List.size_toArray, List.size_toArray, r1.length, r2.length, sizeLine_eq]; omega)) ⟨e1, e2, ?_⟩
  have k : Kp [] [] s.heap (s.heap.push { cls := .type "list", data := .seq (vs ++ ws).toArray }) := .push _
  rw [List.append_toArray]
  exact ⟨_, .list (Heap.get?_push_size _ rfl) (fun q => Nat.lt_irrefl _ (hl _ q)) ((r1.stays k).append (r2.stays k)), k, p, rfl⟩

def D.nil? : D → Option Unit
  | .list l => (match l with
    | [] => some ()
    | _ :: _ => Option.none)
  | _ => Option.none
theorem D.ofNil {d : D} {u : Unit} (e : d.nil? = some u) : d = .list [] := by
  cases d with
  | list l => cases l with
    | nil => rfl
    | cons => exact non e
  | _ => exact non e
def notNil : List D → Bool
  | [] => false
  | _ :: _ => true
theorem ne_nil {A : Around} {s : Shared} {μ : List MO} {v₁ v₂ : Value} {d₁ : D} {a : List D} {Q : Value → Shared → Prop} {E : Value → Shared → Prop} (hA : AOk A b) (hM : Muts G s.heap θ X μ) (R₁ : Rep G s.heap θ X v₁ d₁) (R₂ : Rep G s.heap θ X v₂ (.list [])) (h1 : viewL μ d₁ = some a) (q : Q (.bool (notNil a)) s) : wpAny G.M A (compareOp .NotEq v₁ v₂) Q E s := by
  obtain @⟨l, vs, n, e1, r1⟩ := viewL_rep R₁ hM h1
  obtain @⟨l2, ws, n2, e2, nX, r2⟩ := R₂
  cases r2
  have hu : A.units < cLine := Nat.lt_of_le_of_lt (Nat.le_add_right _ 64) (aok_units hA)
  cases a with
  | nil =>
    cases r1
    exact SeqAt.RcNeAt.lists (e := fun _ => true) ⟨_, e1, rfl, _, rfl⟩ ⟨_, e2, rfl, _, rfl⟩ rfl hu (fun j h1 _ => absurd h1 (Nat.not_lt_zero _)) G.prog G.w _ _ q
  | cons =>
    obtain ⟨x, y⟩ := r1
    exact SeqAt.RcNeAt.lists_lengths ⟨_, e1, rfl, _, rfl⟩ ⟨_, e2, rfl, _, rfl⟩ rfl hu G.prog G.w _ _ q
end
end Mine
namespace Mine
open PySem PySem.W PySem.Calls PyProof.Rows

section
variable {G : Gr} {b : Nat} {fs : Fs} {ns : List Str} {A : Around} {env : Env} {θ X θ' X' θ'' X'' : List Addr} {h h' h'' hs : Heap} {ρ ρ' : List (Option D)} {μ μ' : List MO} {s s' : Shared} {W : List Addr}

/-! ## what is handed out of a call is frozen -/
mutual
def frz (n : Nat) (μ : List MO) : D → Option D
  | .hl k => (match Nat.ble n k with
    | true => (μ[k]?.bind MO.list?).map .list
    | false => none)
  | .hi k c => (match Nat.ble n k with
    | true => (μ[k]?.bind (MO.inst? c)).bind fun l => (match Nat.beq l.length c.names.length with
      | true => some (.inst c l)
      | false => none)
    | false => none)
  | .tup l => (frzs n μ l).map .tup
  | .list l => (frzs n μ l).map .list
  | .inst c l => (frzs n μ l).map (.inst c)
  | .none => some .none
  | .bool b => some (.bool b)
  | .int i => some (.int i)
  | .str x => some (.str x)
  | .bytes l => some (.bytes l)
  | .ty t => some (.ty t)
  | .val v => some (.val v)
def frzs (n : Nat) (μ : List MO) : List D → Option (List D)
  | [] => some []
  | d :: r => (frz n μ d).bind fun d' => (frzs n μ r).map (d' :: ·)
end
theorem rep_weak {v : Value} {d : D} (R : Rep G h θ X' v d) (hX : ∀ c ∈ X, c ∈ X') : Rep G h θ X v d := R.wk hX
theorem reps_weak {v : List Value} {d : List D} (R : Reps G h θ X' v d) (hX : ∀ c ∈ X, c ∈ X') : Reps G h θ X v d := R.wk hX
theorem mrep_weak {a : Addr} {mo : MO} (M : MRep G h X' a mo) (hX : ∀ c ∈ X, c ∈ X') : MRep G h X a mo := M.kp (.refl (W := []) (F := [])) (fun _ q => nomatch q) (fun _ q => nomatch q) (fun c q => .inl (hX c q)) (fun q => nomatch q) fun q => nomatch q
theorem frz_cl {n : Nat} : ∀ d, clD d = true → frz n μ d = some d :=
  D.rec (motive_1 := fun d => clD d = true → frz n μ d = some d) (motive_2 := fun ds => clDs ds = true → frzs n μ ds = some ds)
    (fun _ => rfl) (fun _ _ => rfl) (fun _ _ => rfl) (fun _ _ => rfl) (fun _ _ => rfl)
    (fun _ ih k => congrArg (Option.map D.tup) (ih k)) (fun _ ih k => congrArg (Option.map D.list) (ih k)) (fun c _ ih k => congrArg (Option.map (D.inst c)) (ih k))
    (fun _ k => nomatch k) (fun _ _ k => nomatch k) (fun _ _ => rfl) (fun _ _ => rfl)
    (fun _ => rfl) (fun d r i j k => (congrArg (Option.bind · fun d' => (frzs n μ r).map (d' :: ·)) (i (and2 k).1)).trans (congrArg (Option.map (d :: ·)) (j (and2 k).2)))
theorem frz_rep {n : Nat} (M : Muts G h θ X' μ) (hX : ∀ c ∈ X, c ∈ X') (hn : ∀ (k : Nat) a, n ≤ k → θ[k]? = some a → a ∉ X) {v : Value} {d d' : D} (R : Rep G h θ X' v d) (e : frz n μ d = some d') : Rep G h [] X v d' := by
  refine D.rec (motive_1 := fun d => ∀ v d', Rep G h θ X' v d → frz n μ d = some d' → Rep G h [] X v d') (motive_2 := fun ds => ∀ vs ds', Reps G h θ X' vs ds → frzs n μ ds = some ds' → Reps G h [] X vs ds')
    (fun _ _ R e => Option.some.inj e ▸ R) (fun _ _ _ R e => Option.some.inj e ▸ R) (fun _ _ _ R e => Option.some.inj e ▸ R) (fun _ _ _ R e => Option.some.inj e ▸ R) (fun _ _ _ R e => Option.some.inj e ▸ R)
    (fun _ ih _ _ R e => ?_) (fun _ ih _ _ R e => ?_) (fun c _ ih _ _ R e => ?_) (fun k _ _ R e => ?_) (fun k c _ _ R e => ?_) (fun _ _ _ R e => Option.some.inj e ▸ R) (fun _ _ _ R e => Option.some.inj e ▸ R)
    (fun _ _ R e => Option.some.inj e ▸ R) (fun _ _ i j _ _ R e => ?_) d v d' R e
  · obtain ⟨l, e1, rfl⟩ := Option.map_eq_some_iff.mp e
    obtain ⟨g, n', r⟩ := R
    exact .mk g (fun z => n' (hX _ z)) (ih _ _ r e1)
  · obtain ⟨l, e1, rfl⟩ := Option.map_eq_some_iff.mp e
    obtain ⟨g, n', r⟩ := R
    exact .mk g (fun z => n' (hX _ z)) (ih _ _ r e1)
  · obtain ⟨l, e1, rfl⟩ := Option.map_eq_some_iff.mp e
    obtain ⟨g, g', n1, n2, l1, r, z⟩ := R
    exact .mk g g' (fun z => n1 (hX _ z)) (fun z => n2 (hX _ z)) l1 (ih _ _ r e1) z
  · obtain ⟨ea⟩ := R
    have e' : (match Nat.ble n k with | true => (μ[k]?.bind MO.list?).map D.list | false => none) = _ := e
    cases hk : Nat.ble n k with
    | false => rw [hk] at e'; exact non e'
    | true =>
      rw [hk] at e'
      obtain ⟨l, hl, rfl⟩ := Option.map_eq_some_iff.mp e'
      obtain ⟨g, r⟩ := (list_of_hl M ea hl).2
      exact .list g (hn k _ (Nat.le_of_ble_eq_true hk) ea) (r.wk hX)
  · obtain ⟨ea, hx, nx⟩ := R
    have e' : (match Nat.ble n k with | true => (μ[k]?.bind (MO.inst? c)).bind fun l => (match Nat.beq l.length c.names.length with | true => some (D.inst c l) | false => none) | false => none) = _ := e
    cases hk : Nat.ble n k with
    | false => rw [hk] at e'; exact non e'
    | true =>
      rw [hk] at e'
      obtain ⟨l, hl, e'⟩ := Option.bind_eq_some_iff.mp e'
      cases hz : Nat.beq l.length c.names.length with
      | false => rw [hz] at e'; exact non e'
      | true =>
        rw [hz] at e'
        cases e'
        obtain ⟨g, l1, l2, r⟩ : MI G h X' _ c l := M.2 _ _ _ ea (mu_inst hl)
        exact .inst hx g (fun z => nx (hX _ z)) (hn k _ (Nat.le_of_ble_eq_true hk) ea) l1 (r.wk hX) (r.length.trans (Nat.eq_of_beq_eq_true hz))
  · obtain ⟨a, r⟩ := R
    obtain ⟨d', e1, e2⟩ := Option.bind_eq_some_iff.mp e
    obtain ⟨l, e3, rfl⟩ := Option.map_eq_some_iff.mp e2
    exact .mk (i _ _ a e1) (j _ _ r e3)

/-! ## a def entered -/
theorem cells_acc : ∀ (names : List (Str × NameKind)) (n : Nat) (acc : List (Str × Addr)) (x : Str), (∃ c, acc.lookup x = some c) → ∃ c, (cellsFrom n names acc).lookup x = some c
  | [], _, _, _, h => h
  | (y, k) :: r, n, acc, x, h => by
    unfold cellsFrom
    split
    · refine cells_acc r _ _ x ?_
      rw [List.lookup_cons]
      split
      · exact ⟨_, rfl⟩
      · exact h
    · exact cells_acc r _ _ x h
theorem cells_mem : ∀ (names : List (Str × NameKind)) (n : Nat) (acc : List (Str × Addr)) (x : Str), (x, NameKind.cell) ∈ names → ∃ c, (cellsFrom n names acc).lookup x = some c
  | (y, k) :: r, n, acc, x, h => by
    unfold cellsFrom
    rcases List.mem_cons.mp h with e | h
    · cases e
      rw [if_pos (by rfl)]
      exact cells_acc r _ _ y ⟨n, by simp⟩
    · split
      · exact cells_mem r _ _ x h
      · exact cells_mem r _ _ x h
theorem cells_look {names : List (Str × NameKind)} {n : Nat} {x : Str} (h : names.lookup x = some .cell) : ∃ c, (cellsFrom n names []).lookup x = some c := cells_mem names n [] x (mem_of_lookup h)

theorem bindL_keep {kf : Str → Option NameKind} : ∀ (l : List (Str × Value)) (m : Str → Option Value) (x : Str), x ∉ l.map (·.1) → bindL kf l m x = m x
  | [] => fun _ _ _ => rfl
  | (y, v) :: r => fun m x h => by
    rw [List.map_cons, List.mem_cons, not_or] at h
    unfold bindL
    rw [bindL_keep r _ x h.2]
    split
    · exact if_neg h.1
    · rfl
theorem bindC_keep {kf : Str → Option NameKind} : ∀ (l : List (Str × Value)) (m : Str → Option Value) (x : Str), x ∉ l.map (·.1) → bindC kf l m x = m x
  | [] => fun _ _ _ => rfl
  | (y, v) :: r => fun m x h => by
    rw [List.map_cons, List.mem_cons, not_or] at h
    unfold bindC
    rw [bindC_keep r _ x h.2]
    split
    · rfl
    · exact if_neg h.1
theorem bindL_at {kf : Str → Option NameKind} : ∀ (l : List (Str × Value)) (m : Str → Option Value) (x : Str) (v : Value), (l.map (·.1)).Nodup → (x, v) ∈ l → kf x = some .local → bindL kf l m x = some v
  | [] => fun _ _ _ _ h _ => nomatch h
  | (y, w) :: r => fun m x v nd h k => by
    rw [List.map_cons, List.nodup_cons] at nd
    unfold bindL
    rcases List.mem_cons.mp h with e | h
    · cases e
      rw [bindL_keep r _ y nd.1, if_pos k]
      simp
    · exact bindL_at r _ x v nd.2 h k
theorem bindC_at {kf : Str → Option NameKind} : ∀ (l : List (Str × Value)) (m : Str → Option Value) (x : Str) (v : Value), (l.map (·.1)).Nodup → (x, v) ∈ l → kf x ≠ some .local → bindC kf l m x = some v
  | [] => fun _ _ _ _ h _ => nomatch h
  | (y, w) :: r => fun m x v nd h k => by
    rw [List.map_cons, List.nodup_cons] at nd
    unfold bindC
    rcases List.mem_cons.mp h with e | h
    · cases e
      rw [bindC_keep r _ y nd.1, if_neg k]
      simp
    · exact bindC_at r _ x v nd.2 h k

theorem fl_deeper (hA : A.frames = some (frs A)) (hf : env.frame = some env.locals) : frs (A.deeper env) = env :: frs A ∧ FL (A.deeper env) = env.locals :: FL A ∧ (A.deeper env).frames = some (frs (A.deeper env)) := by
  have e1 : (A.deeper env).frames = some (env :: frs A) := Around.frames_deeper hA
  have e2 : frs (A.deeper env) = env :: frs A := by unfold frs at e1 ⊢; rw [e1]; rfl
  refine ⟨e2, ?_, e2 ▸ e1⟩
  show (frs (A.deeper env)).filterMap (·.frame) = env.locals :: (frs A).filterMap (·.frame)
  rw [e2, List.filterMap_cons, hf]

theorem pair_nodup {cs : List (Str × Addr)} (h : cs.Pairwise fun x y => x.2 ≠ y.2) : (cs.map (·.2)).Nodup := by
  rw [List.Nodup, List.pairwise_map]
  exact h
theorem enter {names rest : List Str} {vals : List Value} {ds : List D} {m cm : Str → Option Value} {s₁ : Shared} (hns : ns = names ++ rest) (hlen : names.length = vals.length) (I : Inv G A X s.heap) (O : Own G A s.heap θ X) (M : Muts G s.heap θ X μ) (R : Reps G s.heap θ X vals ds)
    (hk : env.scope.kind = .function) (hg : env.globals = mainGlobals) (hf : env.frame = some env.locals) (x : InCallC s env.locals m env.cells cm s₁) (hnd : names.Nodup) (hce : ∀ p ∈ env.cells, env.cells.lookup p.1 = some p.2)
    (hkind : ∀ n ∈ names, env.kindOf n = some .local ∨ (env.kindOf n = some .cell ∧ ∃ c, env.cells.lookup n = some c))
    (hm : ∀ n v, (n, v) ∈ names.zip vals → (env.kindOf n = some .local → m n = some v) ∧ (env.kindOf n = some .cell → cm n = some v)) :
    Stt G (A.deeper env) env ns θ (envA env ++ X) s₁.heap (ds.map some ++ List.replicate rest.length none) μ ∧ Kp [] [] s.heap s₁.heap ∧ Rest s s₁ ∧ (∀ a ∈ envA env, s.heap.objs.size ≤ a) := by
  obtain ⟨⟨same, ns₁, keep, fresh⟩, cell, apart, above⟩ := x
  obtain ⟨h₁, tk, rfl⟩ := same
  obtain ⟨f1, f2, f3⟩ := fl_deeper (env := env) I.fs hf
  have hLlt : env.locals < h₁.objs.size := ns₁.lt
  have kp : Kp [] [] s.heap h₁ := kp_keep keep (Nat.le_trans fresh (Nat.le_of_lt hLlt))
  have hnew : ∀ a ∈ envA env, s.heap.objs.size ≤ a := fun a ha => by
    rcases List.mem_cons.mp ha with rfl | ha
    · exact fresh
    · obtain ⟨p, hp, rfl⟩ := List.mem_map.mp ha
      exact Nat.le_trans fresh (Nat.le_of_lt (above p.1 p.2 hp))
  have hlt : ∀ a ∈ envA env, a < h₁.objs.size := fun a ha => by
    rcases List.mem_cons.mp ha with rfl | ha
    · exact hLlt
    · obtain ⟨p, hp, rfl⟩ := List.mem_map.mp ha
      exact (cell p.1 p.2 (hce p hp)).lt
  have hoff : ∀ a ∈ envA env, a ∉ X := fun a ha q => absurd (O.lt a q) (Nat.not_lt.mpr (hnew a ha))
  have kF : Kp [] (FL A) s.heap h₁ := kp.mono (fun _ q => nomatch q) fun _ q => nomatch q
  have sub : ∀ b ∈ envA env ++ X, b ∈ X ∨ s.heap.objs.size ≤ b := fun b hb => (List.mem_append.mp hb).elim (fun q => .inr (hnew b q)) .inl
  have hOn : ∀ a ∈ envA env ++ X, G.h₀.get? a = none := fun a ha => (List.mem_append.mp ha).elim (fun q => base_none I (hnew a q)) (O.new a)
  have I₁ : Inv G A (envA env ++ X) h₁ := (I.grow sub).kp kF (fun _ q => nomatch q) hOn (fun _ _ q => nomatch q) (fun a ha => (O.fl a ha).2) (fun _ _ q => nomatch q)
  refine ⟨⟨⟨I₁.base, I₁.tabs, f3, fun e he => ?_⟩, ⟨fun a ha => ?_, fun a ha => ?_, O.nd, fun a ha => ?_, hOn⟩, M.kp kF (fun _ q => nomatch q) O.FLX sub (fun a ha => ⟨(fun q => nomatch q), fun q => (O.fl a q).1 ha⟩),
    ⟨hk, hg, ⟨m, ns₁⟩, fun p hp => ⟨_, cell p.1 p.2 (hce p hp)⟩, fun a ha => List.mem_append_left _ ha, fun a ha => ⟨fun q => hoff a ha (O.inX a (.inl q)), fun q => hoff a ha (O.inX a (.inr (.inl q)))⟩, ?_, fun p hp q => ?_⟩, fun i d e => ?_⟩, kp, rfl, hnew⟩
  · rw [f1] at he
    rcases List.mem_cons.mp he with rfl | he
    · obtain ⟨o, es, ep, e1, e2, _⟩ := ns₁
      exact ⟨by rw [hk]; decide, _, o, es, ep, hf, base_none I fresh, e1, e2⟩
    · exact I₁.frames e he
  · rw [f2] at ha
    rcases ha with ha | ha | ha
    · exact List.mem_append_right _ (O.inX a (.inl ha))
    · exact List.mem_append_right _ (O.inX a (.inr (.inl ha)))
    · rcases List.mem_cons.mp ha with rfl | ha
      · exact List.mem_append_left _ (.head _)
      · exact List.mem_append_right _ (O.inX a (.inr (.inr ha)))
  · exact (List.mem_append.mp ha).elim (hlt a) fun q => Nat.lt_of_lt_of_le (O.lt a q) kp.1
  · rw [f2] at ha
    rcases List.mem_cons.mp ha with rfl | ha
    · exact ⟨fun q => hoff _ (.head _) (O.inX _ (.inl q)), fun q => hoff _ (.head _) (O.inX _ (.inr (.inl q)))⟩
    · exact O.fl a ha
  · refine List.nodup_cons.mpr ⟨fun q => ?_, pair_nodup apart⟩
    obtain ⟨p, hp, e⟩ := List.mem_map.mp q
    exact absurd (above p.1 p.2 hp) (by rw [e]; exact Nat.lt_irrefl _)
  · rw [f2] at q
    rcases List.mem_cons.mp q with e | q
    · exact absurd (above p.1 p.2 hp) (by rw [e]; exact Nat.lt_irrefl _)
    · exact hoff p.2 (.tail _ (List.mem_map_of_mem hp)) (O.inX _ (.inr (.inr q)))
  · have hi : i < ds.length := by
      rcases Nat.lt_or_ge i ds.length with h | h
      · exact h
      · rw [List.getElem?_append_right (by simpa using h), List.getElem?_replicate] at e
        split at e <;> cases e
    rw [List.getElem?_append_left (by simpa using hi), List.getElem?_map] at e
    obtain ⟨d', hd', e⟩ := Option.map_eq_some_iff.mp e
    cases e
    obtain ⟨v, hv, Rv⟩ := R.get hd'
    have hin : i < names.length := by rw [hlen, R.length]; exact hi
    have hmem : (names[i], v) ∈ names.zip vals := by
      have hiv := (List.getElem?_eq_some_iff.mp hv).1
      have : (names.zip vals)[i]? = some (names[i], v) := by
        rw [List.getElem?_zip_eq_some]
        exact ⟨List.getElem?_eq_getElem hin, hv⟩
      exact List.mem_of_getElem? this
    refine ⟨names[i], v, by rw [hns, List.getElem?_append_left hin, List.getElem?_eq_getElem hin], ?_, Rv.kp kF (fun _ q => nomatch q) O.FLX (fun _ _ e => e) sub⟩
    rcases hkind names[i] (List.getElem_mem hin) with hl | ⟨hl, c, hc⟩
    · exact .inl ⟨hl, m, ns₁, (hm _ _ hmem).1 hl⟩
    · exact .inr ⟨.inl hl, c, hc, (hm _ _ hmem).2 hl ▸ cell _ c hc⟩
end
end Mine
namespace Mine
open PySem PySem.W PySem.Calls PyProof.Rows

section
variable {G : Gr} {b : Nat} {fs : Fs} {ns : List Str} {A : Around} {env : Env} {θ X θ' X' θ'' X'' : List Addr} {h h' h'' hs : Heap} {ρ ρ' : List (Option D)} {μ μ' : List MO} {s s' : Shared} {W : List Addr}

theorem cells_keys : ∀ (names : List (Str × NameKind)) (n : Nat) (acc : List (Str × Addr)), (∀ p ∈ acc, p.1 ∉ names.map (·.1)) → (acc.map (·.1)).Nodup → (names.map (·.1)).Nodup → ((cellsFrom n names acc).map (·.1)).Nodup
  | [], _, _, _, h, _ => h
  | (y, k) :: r, n, acc, hd, h, hn => by
    rw [List.map_cons, List.nodup_cons] at hn
    unfold cellsFrom
    split
    · refine cells_keys r _ _ (fun p hp => ?_) ?_ hn.2
      · rcases List.mem_cons.mp hp with rfl | hp
        · exact hn.1
        · exact fun q => hd p hp (.tail _ q)
      · rw [List.map_cons, List.nodup_cons]
        refine ⟨fun q => ?_, h⟩
        obtain ⟨p, hp, e⟩ := List.mem_map.mp q
        have e' : p.1 = y := e
        exact hd p hp (by rw [List.map_cons, e']; exact .head _)
    · exact cells_keys r _ _ (fun p hp q => hd p hp (.tail _ q)) h hn.2
theorem look_of_mem {l : List (Str × Addr)} (h : (l.map (·.1)).Nodup) : ∀ p ∈ l, l.lookup p.1 = some p.2 := by
  induction l with
  | nil => intro p hp; cases hp
  | cons q r ih =>
    intro p hp
    rw [List.map_cons, List.nodup_cons] at h
    rw [List.lookup_cons]
    rcases List.mem_cons.mp hp with rfl | hp
    · simp
    · have hne : (p.1 == q.1) = false := by
        rw [beq_eq_false_iff_ne]
        intro e
        exact h.1 (e ▸ List.mem_map_of_mem hp)
      rw [hne]
      exact ih h.2 p hp

inductive PostRr (G : Gr) (A : Around) (θ X : List Addr) (s : Shared) (Q : D → List MO → Prop) (v : Value) (s' : Shared) : Prop
  | mk (θ' X' d μ') : Kp (θ ++ G.tA) (FL A) s.heap s'.heap → Inv G A X' s'.heap → Grow G s.heap X s'.heap X' → (∃ nw, θ' = θ ++ nw ∧ ∀ a ∈ nw, s.heap.objs.size ≤ a ∧ a ∈ X') → Muts G s'.heap θ' X' μ' → Rep G s'.heap θ' X' v d → Q d μ' → Rest s s' → PostRr G A θ X s Q v s'
def PostR (G : Gr) (A : Around) (θ X : List Addr) (s : Shared) (n : Nat) (Q : D → List MO → Prop) (Ex : Exn → List MO → Prop) (r : Result) (s' : Shared) : Prop := match r with
  | .ok (.ret v) => PostRr G A θ X s Q v s'
  | .ok _ => False
  | .error v => PostCx G A θ X s Ex (some n) v s'

theorem leave_ext {θ' X' : List Addr} {s₁ s' : Shared} (I : Inv G A X s.heap) (hf : env.frame = some env.locals) (kp : Kp [] [] s.heap s₁.heap) (hn : ∀ a ∈ envA env, s.heap.objs.size ≤ a)
    (e : ExtS G (A.deeper env) env θ (envA env ++ X) s₁.heap θ' X' s'.heap) (S : Stt G (A.deeper env) env ns θ' X' s'.heap ρ μ) :
    Kp (θ ++ G.tA) (FL A) s.heap s'.heap ∧ Inv G A X' s'.heap ∧ Grow G s.heap X s'.heap X' ∧ ∃ nw, θ' = θ ++ nw ∧ ∀ a ∈ nw, s.heap.objs.size ≤ a ∧ a ∈ X' := by
  obtain ⟨f1, f2, f3⟩ := fl_deeper (env := env) I.fs hf
  have hL := hn env.locals (.head _)
  refine ⟨?_, ⟨S.inv.base, S.inv.tabs, I.fs, fun x hx => S.inv.frames x (by rw [f1]; exact .tail _ hx)⟩, ⟨fun a ha => e.sup a (List.mem_append_right _ ha), fun a ha => ?_, S.own.lt, S.own.new⟩, ?_⟩
  · refine (kp.mono (W' := θ ++ G.tA) (F' := FL A) (fun _ q => nomatch q) fun _ q => nomatch q).trans' e.kp (fun a ha => ?_) fun a ha => ?_
    · exact (List.mem_append.mp ha).elim (fun q => .inr (hn a q)) .inl
    · rw [f2] at ha
      exact (List.mem_cons.mp ha).elim (fun q => .inr (q ▸ hL)) .inl
  · rcases e.sub a ha with q | q
    · exact (List.mem_append.mp q).elim (fun q => .inr (hn a q)) .inl
    · exact .inr (Nat.le_trans kp.1 q)
  · obtain ⟨nw, rfl, hnw⟩ := e.new
    exact ⟨nw, rfl, fun a ha => ⟨Nat.le_trans kp.1 (hnw a ha), S.own.inX a (.inl (List.mem_append_right _ ha))⟩⟩
theorem Muts.take {nw : List Addr} (M : Muts G h (θ ++ nw) X μ') : Muts G h θ X (μ'.take θ.length) := by
  refine ⟨?_, fun i a mo e1 e2 => ?_⟩
  · rw [List.length_take, ← M.1, List.length_append]
    omega
  · have hi := (List.getElem?_eq_some_iff.mp e1).1
    rw [List.getElem?_take_of_lt hi] at e2
    exact M.2 i a mo (by rw [List.getElem?_append_left hi]; exact e1) e2
theorem ExcAt.down {nw : List Addr} {e : Addr} {c : Exn} (x : ExcAt G hs (θ ++ nw) X h e c) : ExcAt G hs θ X h e c := x.map fun _ l => ⟨l.1, l.2.1, fun q => l.2.2.1 (List.mem_append_left _ q), l.2.2.2⟩

theorem FR_gen (O : G.Ok) {fa : Addr} {name qual : Str} {params : Arguments} {body : List Stmt} {scope : Scope} {dV kV doc pm cdv ct oc : Value} {an od : Option Addr} {osl : Array (Option Value)} {names rest : List Str} {dvs : List Value} {dds : List D}
    (ho : G.K.lookup fa = some ⟨oc, od, .func (fnOf name qual params body scope dV kV doc pm an cdv ct), osl⟩) (hcd : codeIn G.K cdv qual = true)
    (hbind : ∀ (s : Shared) (vals : List Value), G.K.In s.heap → vals.length + dvs.length = names.length → BindsTo s (fnOf name qual params body scope dV kV doc pm an cdv ct) ⟨vals, []⟩ (names.zip (vals ++ dvs)))
    (hdef : ∀ h θ X, (∀ b o, G.h₀.get? b = some o → h.get? b = some o) → (∀ a ∈ X, G.h₀.get? a = none) → Reps G h θ X dvs dds)
    (hns : ns = names ++ rest) (hnd : names.Nodup) (hkind : ∀ n ∈ names, scope.names.lookup n = some .local ∨ scope.names.lookup n = some .cell) (hsn : (scope.names.map (·.1)).Nodup)
    (hk : scope.kind = .function) (hco : scope.isCoroutine = false) (hgen : scope.isGenerator = false)
    {A : Around} {θ X : List Addr} {s : Shared} {vals : List Value} {ds : List D} {μ : List MO} {Q : D → List MO → Prop} {Ex : Exn → List MO → Prop}
    (hB : ∀ (env : Env) (s₁ : Shared), AOk (A.deeper env) b → (⟨scope, cdv, qual ++ ".<locals>."⟩ : Fs).ok env → InFr (A.deeper env) env → env.frame = some env.locals → frs (A.deeper env) = env :: frs A → Stt G (A.deeper env) env ns θ (envA env ++ X) s₁.heap ((ds ++ dds).map some ++ List.replicate rest.length none) μ →
      Kp [] [] s.heap s₁.heap → (∀ a ∈ envA env, s.heap.objs.size ≤ a) → Rest s s₁ →
      wpAny G.M (A.deeper env) (execs body env) (PostS G (A.deeper env) env ns θ (envA env ++ X) s₁ (fun _ μ' => Q .none μ') Q) (PostSX G (A.deeper env) env ns θ (envA env ++ X) s₁ Ex) s₁)
    (hA : AOk A (b + 1)) (I : Inv G A X s.heap) (W : Own G A s.heap θ X) (M : Muts G s.heap θ X μ) (R : Reps G s.heap θ X vals ds) (hlen : ds.length + dds.length = names.length) : codeAny G.M A (.call (.ref fa) ⟨vals, []⟩) (PostR G A θ X s μ.length Q Ex) s := by
  obtain ⟨_, _, T⟩ := O.T
  have X' := O.X.keeps I.base
  have Rd := hdef s.heap θ X I.base W.new
  have hvl : vals.length + dvs.length = names.length := by rw [R.length, Rd.length]; exact hlen
  have hroom : A.depth < recursionLimit := by have := hA.2.1; show A.depth < 1000; omega
  refine codeAny_call_function (fd := fnOf name qual params body scope dV kV doc pm an cdv ct) (body := body) hroom (X' _ _ ho) rfl hco hgen rfl (codeRec_of X' hcd) ?_
  refine hbind s vals X' hvl _ _ _ _ ?_
  refine wpAny_newFunctionEnv_cells hk (fun x hx => ?_) fun env he s₁ x => ?_
  · have hin : x.1 ∈ names := (List.of_mem_zip hx).1
    rcases hkind x.1 hin with h | h
    · exact .inl h
    · exact .inr ⟨h, by obtain ⟨c, hc⟩ := cells_look (n := s.heap.objs.size + 1) h; rw [hc]; rfl⟩
  · have hsc : env.scope = scope := by rw [he]; rfl
    have hcl : env.cells = cellsFrom (s.heap.objs.size + 1) scope.names [] := by rw [he]; rfl
    have hfr : env.frame = some env.locals := by rw [he]; rfl
    have hko : ∀ n, env.kindOf n = scope.names.lookup n := fun n => by unfold Env.kindOf; rw [hsc]
    have ec := enter (ns := ns) (rest := rest) (names := names) (vals := vals ++ dvs) (ds := ds ++ dds) hns (by rw [List.length_append]; exact hvl.symm) I W M (R.append Rd) (by rw [hsc]; exact hk) (by rw [he]; rfl) hfr x hnd
      (by rw [hcl]; exact look_of_mem (cells_keys _ _ _ (fun _ q => nomatch q) List.nodup_nil hsn))
      (fun n hn => by
        rw [hko]
        rcases hkind n hn with h | h
        · exact .inl h
        · exact .inr ⟨h, by rw [hcl]; exact cells_look h⟩)
      (fun n v hv => by
        have hz : ((names.zip (vals ++ dvs)).map (·.1)).Nodup := by
          rw [List.map_fst_zip (by rw [List.length_append]; omega)]
          exact hnd
        exact ⟨fun k => bindL_at _ _ _ _ hz hv k, fun k => bindC_at _ _ _ _ hz hv (by rw [k]; decide)⟩)
    obtain ⟨S, kp, r0, hnew⟩ := ec
    refine ⟨T.nolimit.keeps fun b o e => (kp.get (I.base b o e) (fun q => nomatch q) fun q => nomatch q), codeAny_func ?_⟩
    have hA' : AOk (A.deeper env) b := ⟨hA.1, by have := hA.2.1; show A.depth + 1 + 8 * b + 20 ≤ 1000; omega, by have := hA.2.2; show A.units + 3 + 100 * b + 300 ≤ 9900; omega⟩
    obtain ⟨f1, f2, f3⟩ := fl_deeper (env := env) I.fs hfr
    have hF : InFr (A.deeper env) env := ⟨⟨_, f1⟩, _, hfr⟩
    have hok : (⟨scope, cdv, qual ++ ".<locals>."⟩ : Fs).ok env := ⟨hsc, by rw [he]; rfl, by rw [he]; rfl, by rw [he]; rfl, fun n hn => by rw [hcl]; exact cells_look hn⟩
    refine wpAny_mono (hB env s₁ hA' hok hF hfr f1 S kp hnew r0) (fun f s₂ h₂ => ?_) fun v s₂ h₂ => ?_
    · cases f with
      | next =>
        obtain ⟨θ₂, X₂, ρ₂, μ₂, e₂, S₂, q₂, r₂⟩ := h₂
        obtain ⟨a1, a2, a3, a4⟩ := leave_ext I hfr kp hnew e₂ S₂
        exact ⟨θ₂, X₂, .none, μ₂, a1, a2, a3, a4, S₂.muts, .none, q₂, r0.trans r₂⟩
      | ret v =>
        obtain ⟨θ₂, X₂, ρ₂, d₂, μ₂, e₂, S₂, R₂, q₂, r₂⟩ := h₂
        obtain ⟨a1, a2, a3, a4⟩ := leave_ext I hfr kp hnew e₂ S₂
        exact ⟨θ₂, X₂, d₂, μ₂, a1, a2, a3, a4, S₂.muts, R₂, q₂, r0.trans r₂⟩
      | brk => exact h₂.elim
      | cont => exact h₂.elim
    · obtain ⟨θ₂, X₂, ρ₂, e, c, μ₂, rfl, e₂, S₂, x₂, q₂, r₂⟩ := h₂
      unfold leaving
      refine wpAny_bind (exc_note f1 hfr S₂ x₂ fun X₃ h₃ W₃ kp₃ hW₃ gr₃ S₃ x₃ => ?_)
      refine exc_flight (s := { s₂ with heap := h₃ }) S₃ x₃ fun h₄ W₄ kp₄ hW₄ S₄ x₄ => ?_
      have e₄ : ExtS G (A.deeper env) env θ (envA env ++ X) s₁.heap θ₂ X₃ h₄ := extS_loose (extS_loose e₂ kp₃ hW₃ gr₃) kp₄ hW₄ (.same S₃.own kp₄.1)
      obtain ⟨a1, a2, a3, nw, rfl, a4⟩ := leave_ext (s' := { s₂ with heap := h₄ }) I hfr kp hnew e₄ S₄
      exact ⟨e, c, μ₂, X₃, rfl, a1, a2, a3, by rw [← M.1]; exact S₄.muts.take, x₄.at.down.le kp.1, q₂, (r0.trans r₂).trans .mkH⟩

theorem FR_def (O : G.Ok) {fa : Addr} {name qual : Str} {params : Arguments} {body : List Stmt} {scope : Scope} {dV kV doc pm cdv ct oc : Value} {an od : Option Addr} {osl : Array (Option Value)} {names rest : List Str} {dvs : List Value} {dds : List D} {P : PS}
    (ho : G.K.lookup fa = some ⟨oc, od, .func (fnOf name qual params body scope dV kV doc pm an cdv ct), osl⟩) (hcd : codeIn G.K cdv qual = true)
    (hbind : ∀ (s : Shared) (vals : List Value), G.K.In s.heap → vals.length + dvs.length = names.length → BindsTo s (fnOf name qual params body scope dV kV doc pm an cdv ct) ⟨vals, []⟩ (names.zip (vals ++ dvs)))
    (hdef : ∀ h θ X, (∀ b o, G.h₀.get? b = some o → h.get? b = some o) → (∀ a ∈ X, G.h₀.get? a = none) → Reps G h θ X dvs dds)
    (hns : ns = names ++ rest) (hnd : names.Nodup) (hkind : ∀ n ∈ names, scope.names.lookup n = some .local ∨ scope.names.lookup n = some .cell) (hsn : (scope.names.map (·.1)).Nodup)
    (hk : scope.kind = .function) (hco : scope.isCoroutine = false) (hgen : scope.isGenerator = false)
    (hB : SB G b ⟨scope, cdv, qual ++ ".<locals>."⟩ ns body P) {A : Around} {θ X : List Addr} {s : Shared} {vals : List Value} {ds : List D} {μ : List MO} {Q : D → List MO → Prop} {Ex : Exn → List MO → Prop}
    (hA : AOk A (b + 1)) (I : Inv G A X s.heap) (W : Own G A s.heap θ X) (M : Muts G s.heap θ X μ) (R : Reps G s.heap θ X vals ds) (hlen : ds.length + dds.length = names.length)
    (p : P ((ds ++ dds).map some ++ List.replicate rest.length none) μ (fun _ μ' => Q .none μ') Q Ex) : codeAny G.M A (.call (.ref fa) ⟨vals, []⟩) (PostR G A θ X s μ.length Q Ex) s :=
  FR_gen O ho hcd hbind hdef hns hnd hkind hsn hk hco hgen (fun env s₁ a1 a2 a3 _ _ a4 _ _ _ => hB (A.deeper env) env θ (envA env ++ X) s₁ _ μ _ Q Ex a1 a2 a3 a4 p) hA I W M R hlen

/-- what a def's contract is, from what its body does -/
def retQ (n : Nat) (Q : D → List MO → Prop) : D → List MO → Prop := fun d μ' => need (frz n μ' d) fun d' => Q d' (μ'.take n)
def defS (np : Nat) (dds : List D) (nr : Nat) (P : PS) : PF := fun ds μ Q Ex => guard (Nat.beq (ds.length + dds.length) np) (P ((ds ++ dds).map some ++ List.replicate nr none) μ (fun _ μ' => Q .none (μ'.take μ.length)) (retQ μ.length Q) (fun c μ' => Ex c (μ'.take μ.length)))
theorem postR_C {Q : D → List MO → Prop} {Ex : Exn → List MO → Prop} {Q' : D → List MO → Prop} {r : Result} (W : Own G A s.heap θ X) (M : Muts G s.heap θ X μ) (p : PostR G A θ X s μ.length Q' (fun c μ' => Ex c (μ'.take μ.length)) r s')
    (k : ∀ d μ', Q' d μ' → retQ μ.length Q d μ') : PostC G A θ X s Q Ex r s' := by
  rcases r with v | (v | _ | _ | v)
  · obtain ⟨e, c, μ', X', rfl, a1, a2, a3, a4, a5, a6, a7⟩ := p
    exact ⟨e, c, _, X', rfl, a1, a2, a3, a4, a5, a6, a7⟩
  · exact p
  · exact p
  · exact p
  · obtain ⟨θ', X', d, μ', a1, a2, a3, ⟨nw, rfl, a4⟩, a5, a6, a7, a8⟩ := p
    refine need.elim (k d μ' a7) fun d' hd q => ?_
    rw [← M.1] at hd q
    have t := Muts.take a5
    refine ⟨d', μ'.take θ.length, a1, ⟨a2.base, fun t ht => (a2.tabs t ht).mono (fun _ e => e) fun c s h1 h2 => ⟨h1, fun z => h2 (a3.sup _ z)⟩, a2.fs, a2.frames⟩, ⟨t.1, fun i a mo e1 e2 => mrep_weak (t.2 i a mo e1 e2) a3.sup⟩, ?_, q, a8⟩
    refine frz_rep a5 a3.sup (fun j a hj ea q => ?_) a6 hd
    rw [List.getElem?_append_right hj] at ea
    exact absurd (W.lt a q) (Nat.not_lt.mpr (a4 a (List.mem_of_getElem? ea)).1)

theorem FV_def (O : G.Ok) {fa : Addr} {name qual : Str} {params : Arguments} {body : List Stmt} {scope : Scope} {dV kV doc pm cdv ct oc : Value} {an od : Option Addr} {osl : Array (Option Value)} {names rest : List Str} {dvs : List Value} {dds : List D} {P : PS}
    (ho : G.K.lookup fa = some ⟨oc, od, .func (fnOf name qual params body scope dV kV doc pm an cdv ct), osl⟩) (hcd : codeIn G.K cdv qual = true)
    (hbind : ∀ (s : Shared) (vals : List Value), G.K.In s.heap → vals.length + dvs.length = names.length → BindsTo s (fnOf name qual params body scope dV kV doc pm an cdv ct) ⟨vals, []⟩ (names.zip (vals ++ dvs)))
    (hdef : ∀ h θ X, (∀ b o, G.h₀.get? b = some o → h.get? b = some o) → (∀ a ∈ X, G.h₀.get? a = none) → Reps G h θ X dvs dds)
    (hns : ns = names ++ rest) (hnd : names.Nodup) (hkind : ∀ n ∈ names, scope.names.lookup n = some .local ∨ scope.names.lookup n = some .cell) (hsn : (scope.names.map (·.1)).Nodup)
    (hk : scope.kind = .function) (hco : scope.isCoroutine = false) (hgen : scope.isGenerator = false)
    (hB : SB G b ⟨scope, cdv, qual ++ ".<locals>."⟩ ns body P) : FV G (b + 1) fa (defS names.length dds rest.length P) := fun A θ X s vals ds μ Q Ex hA I W M R p => by
  obtain ⟨hl, p⟩ := beq_le p
  exact codeAny_mono (FR_def O ho hcd hbind hdef hns hnd hkind hsn hk hco hgen hB (Q := retQ μ.length Q) (Ex := fun c μ' => Ex c (μ'.take μ.length)) hA I W M R hl p) fun r s' q => postR_C W M q fun d μ' z => z

/-! ## defs that hand out something new -/
inductive PostNr (G : Gr) (A : Around) (θ X : List Addr) (s : Shared) (Q : List D → List MO → Prop) (v : Value) (s' : Shared) : Prop
  | mk (a l μ') : v = .ref a → s.heap.objs.size ≤ a → a < s'.heap.objs.size → MRep G s'.heap (a :: X) a (.list l) → Kp (θ ++ G.tA) (FL A) s.heap s'.heap → Inv G A X s'.heap → Inv G A (a :: X) s'.heap → Muts G s'.heap θ X μ' → Q l μ' → Rest s s' → PostNr G A θ X s Q v s'
def PostN (G : Gr) (A : Around) (θ X : List Addr) (s : Shared) (Q : List D → List MO → Prop) (Ex : Exn → List MO → Prop) (r : Result) (s' : Shared) : Prop := match r with
  | .ok (.ret v) => PostNr G A θ X s Q v s'
  | .ok _ => False
  | .error v => PostCx G A θ X s Ex none v s'
abbrev PN := List D → List MO → (List D → List MO → Prop) → (Exn → List MO → Prop) → Prop
/-- a def that hands out a new list -/
def FN (G : Gr) (b : Nat) (fa : Addr) (S : PN) : Prop :=
  ∀ (A : Around) (θ X : List Addr) (s : Shared) vals ds μ Q Ex, AOk A b → Inv G A X s.heap → Own G A s.heap θ X → Muts G s.heap θ X μ → Reps G s.heap θ X vals ds → S ds μ Q Ex →
    codeAny G.M A (.call (.ref fa) ⟨vals, []⟩) (PostN G A θ X s Q Ex) s
end
end Mine
namespace Mine
open PySem PySem.W PySem.Calls PyProof.Rows

section
variable {G : Gr} {b : Nat} {fs : Fs} {ns : List Str} {A : Around} {env : Env} {θ X θ' X' θ'' X'' : List Addr} {h h' h'' hs : Heap} {ρ ρ' : List (Option D)} {μ μ' : List MO} {s s' : Shared} {W : List Addr}

theorem under_aok {C : Value} {vals : List Value} (hA : AOk A (b + 1)) : AOk (A.under (.builtin "type.__call__" ⟨C :: vals, []⟩)) b ∧ frs (A.under (.builtin "type.__call__" ⟨C :: vals, []⟩)) = frs A ∧ (A.under (.builtin "type.__call__" ⟨C :: vals, []⟩)).frames = A.frames := by
  have e : (A.under (.builtin "type.__call__" ⟨C :: vals, []⟩)).frames = A.frames := rfl
  refine ⟨⟨hA.1, ?_, ?_⟩, rfl, e⟩
  · have := hA.2.1
    have hw : (Code.builtin "type.__call__" ⟨C :: vals, []⟩).weight ≤ 2 := by
      unfold Code.weight
      have h1 : (Code.builtin "type.__call__" ⟨C :: vals, []⟩).frames = 0 := rfl
      have h2 : (Code.builtin "type.__call__" ⟨C :: vals, []⟩).isGuard = false := by show guardIds.contains "type.__call__" = false; decide
      have h3 : (Code.builtin "type.__call__" ⟨C :: vals, []⟩).isCaller = false := rfl
      rw [h1, h2, h3]
      split <;> simp
    show A.depth + (Code.builtin "type.__call__" ⟨C :: vals, []⟩).weight + 8 * b + 20 ≤ 1000
    omega
  · have := hA.2.2
    have hw : (Code.builtin "type.__call__" ⟨C :: vals, []⟩).cUnits ≤ 50 := by
      show Code.cUnits (.builtin "type.__call__" _) ≤ 50
      exact Nat.le_of_ble_eq_true rfl
    show A.units + (Code.builtin "type.__call__" ⟨C :: vals, []⟩).cUnits + 100 * b + 300 ≤ 9900
    omega

theorem Stt.adopt {a : Addr} {mo : MO} (S : Stt G A env ns θ X h ρ μ) (aX : a ∈ X) (o1 : a ∉ θ) (o2 : a ∉ G.tA) (o3 : a ∉ FL A) (o4 : a ∉ envA env) (m : MRep G h X a mo) : Stt G A env ns (θ ++ [a]) X h ρ (μ ++ [mo]) := by
  have th : ∀ (i : Nat) (c : Addr), θ[i]? = some c → (θ ++ [a])[i]? = some c := fun i c e => by
    rw [List.getElem?_append_left (List.getElem?_eq_some_iff.mp e).1]; exact e
  refine ⟨S.inv, ⟨fun c hc => ?_, S.own.lt, ?_, fun c hc => ⟨fun q => ?_, (S.own.fl c hc).2⟩, S.own.new⟩, ⟨by rw [List.length_append, List.length_append, S.muts.1]; rfl, fun i c mo' e1 e2 => ?_⟩,
    ⟨S.eo.kind, S.eo.glob, S.eo.ns, S.eo.cells, S.eo.inX, fun c hc => ⟨fun q => ?_, (S.eo.off c hc).2⟩, S.eo.nd, S.eo.nfl⟩, fun i d e => ?_⟩
  · rcases hc with hc | hc
    · rcases List.mem_append.mp hc with hc | hc
      · exact S.own.inX c (.inl hc)
      · rw [List.mem_singleton.mp hc]; exact aX
    · exact S.own.inX c (.inr hc)
  · have := S.own.nd
    rw [List.nodup_append] at this ⊢
    refine ⟨?_, this.2.1, fun x hx y hy => ?_⟩
    · rw [List.nodup_append]
      exact ⟨this.1, by simp, fun x hx y hy e => o1 (by rw [← List.mem_singleton.mp hy, ← e]; exact hx)⟩
    · rcases List.mem_append.mp hx with hx | hx
      · exact this.2.2 x hx y hy
      · rw [List.mem_singleton.mp hx]; exact fun e => o2 (e ▸ hy)
  · rcases List.mem_append.mp q with q | q
    · exact (S.own.fl c hc).1 q
    · exact o3 (by rw [← List.mem_singleton.mp q]; exact hc)
  · by_cases hi : i < θ.length
    · rw [List.getElem?_append_left hi] at e1
      rw [List.getElem?_append_left (by rw [← S.muts.1]; exact hi)] at e2
      exact S.muts.2 i c mo' e1 e2
    · have hi' : i = θ.length := by
        have := (List.getElem?_eq_some_iff.mp e1).1
        rw [List.length_append, List.length_singleton] at this; omega
      subst hi'
      rw [List.getElem?_append_right (Nat.le_refl _), Nat.sub_self] at e1
      rw [S.muts.1, List.getElem?_append_right (Nat.le_refl _), Nat.sub_self] at e2
      cases e1; cases e2
      exact m
  · rcases List.mem_append.mp q with q | q
    · exact (S.eo.off c hc).1 q
    · rw [List.mem_singleton.mp q] at hc; exact o4 hc
  · obtain ⟨x, v, e1, V, R⟩ := S.var i d e
    exact ⟨x, v, e1, V, R.kp (.refl (W := []) (F := [])) (fun _ q => nomatch q) (fun _ q => nomatch q) th fun _ q => .inl q⟩

theorem Stt.addH (S : Stt G A env ns θ X h ρ μ) (k : Kp [] [] h h') {a : Addr} {mo : MO} (ha : h.objs.size ≤ a) (hlt : a < h'.objs.size) (m : MRep G h' (a :: X) a mo) : Stt G A env ns (θ ++ [a]) (a :: X) h' ρ (μ ++ [mo]) := by
  have hX : a ∉ X := fun q => absurd (S.own.lt a q) (Nat.not_lt.mpr ha)
  exact (S.move (W := []) (k.mono (fun _ q => nomatch q) fun _ q => nomatch q) (fun _ q => nomatch q) (X' := a :: X) ⟨fun _ q => .tail _ q, fun c q => (List.mem_cons.mp q).elim (fun e => .inr (e ▸ ha)) .inl, fun c q => (List.mem_cons.mp q).elim (fun e => e ▸ hlt) fun q => Nat.lt_of_lt_of_le (S.own.lt c q) k.1,
    fun c q => (List.mem_cons.mp q).elim (fun e => e ▸ base_none S.inv ha) (S.own.new c)⟩).adopt (.head _) (fun q => hX (S.own.inX a (.inl q))) (fun q => hX (S.own.inX a (.inr (.inl q)))) (fun q => hX (S.own.inX a (.inr (.inr q)))) (fun q => hX (S.eo.inX a q)) m
theorem Ext.addH (k : Kp [] [] h h') {a : Addr} (ha : h.objs.size ≤ a) : Ext G A θ X h (θ ++ [a]) (a :: X) h' :=
  ⟨k.mono (fun _ q => nomatch q) (fun _ q => nomatch q), ⟨[a], rfl, fun c q => by rw [List.mem_singleton.mp q]; exact ha⟩, fun _ q => .tail _ q, fun c q => (List.mem_cons.mp q).elim (fun e => .inr (e ▸ ha)) .inl⟩

/-- a list display that its owner will change -/
def tNewL (P : PL) : PE := fun ρ μ Q Ex => P ρ μ (fun ds μ' => guard (Nat.ble ds.length 1000) (guard (clDs ds) (Q (.hl μ'.length) (μ' ++ [.list ds])))) Ex
theorem EV_newL {es : List Expr} {P : PL} {pos} (hl : EL G b fs ns es P) (hn : noStar es = true) : EV G b fs ns (.List es pos) (tNewL P) := fun A env θ X s ρ μ Q Ex hA he S p => by
  refine List_ ?_
  rw [backTo_plain _ _ _ hn]
  refine wpAny_mono (hl A env θ X s ρ μ _ Ex hA he S p) (fun vs s₁ h => ?_) fun _ _ q => q
  obtain ⟨θ₁, X₁, ds, μ₁, e₁, S₁, R₁, q₁, r₁⟩ := h
  obtain ⟨z, q₁⟩ := guard.le q₁
  obtain ⟨zc, q₁⟩ := guard.out q₁
  have k : Kp [] [] s₁.heap (s₁.heap.push { cls := .type "list", data := .seq vs.toArray }) := .push _
  have hlt : s₁.heap.objs.size < (s₁.heap.push { cls := .type "list", data := .seq vs.toArray }).objs.size := by rw [Heap.size_push]; exact Nat.lt_succ_self _
  have e2 : Ext G A θ₁ X₁ s₁.heap (θ₁ ++ [s₁.heap.objs.size]) (s₁.heap.objs.size :: X₁) (s₁.heap.push { cls := .type "list", data := .seq vs.toArray }) := .addH k (Nat.le_refl _)
  refine wpAny_newObj_type ⟨θ₁ ++ [s₁.heap.objs.size], s₁.heap.objs.size :: X₁, .hl μ₁.length, μ₁ ++ [.list ds], e₁.trans e2, S₁.addH k (Nat.le_refl _) hlt ?_, ?_, q₁, r₁.trans rfl⟩ (by show vs.toArray.size ≤ sizeLine; rw [List.size_toArray, R₁.length, sizeLine_eq]; omega)
  · exact .list (Heap.get?_push_size _ rfl) ((R₁.ext S₁.own e2).uncl zc)
  · refine .hl ?_
    rw [← S₁.muts.1, List.getElem?_append_right (Nat.le_refl _), Nat.sub_self]; rfl

/-! ## a class called -/
structure NewOk (G : Gr) (c : Cls) (fI : Addr) : Prop where
  makes : makesIn G.K (G.cA c) = true
  init : findIn G.K (.ref (G.cA c)) "__init__" = some (some (.ref fI))
  fn : typeIn G.K (.ref fI) = some (.type "function")
  keep : keepIn G.K (.ref (G.cA c)) = true

inductive PostM (G : Gr) (A : Around) (X : List Addr) (s : Shared) (c : Cls) (Q : MO → Prop) (s' : Shared) : Value → Prop
  | mk (mo) : Kp G.tA (FL A) s.heap s'.heap → Inv G A (s.heap.objs.size :: X) s'.heap → s'.heap.get? (s.heap.objs.size + 1) = some (instObj (G.cA c) s.heap.objs.size) → MRep G s'.heap (s.heap.objs.size :: X) s.heap.objs.size mo → s.heap.objs.size < s'.heap.objs.size → Q mo → Rest s s' → PostM G A X s c Q s' (.ref (s.heap.objs.size + 1))
theorem new_core (O : G.Ok) {c : Cls} {fI : Addr} {S : PF} (N : NewOk G c fI) (hS : FV G b fI S) (hA : AOk A (b + 1)) (St : Stt G A env ns θ X s.heap ρ μ) {vals : List Value} {ds : List D} {Q : MO → Prop} {Ex : Exn → List MO → Prop}
    (R : Reps G s.heap θ X vals ds) (hc : clDs ds = true) (p : S (.hi 0 c :: ds) [.inst c []] (fun d m => d.isNone = some true ∧ one (fun _ mo => Q mo) () m) (fun e _ => Ex e μ)) :
    wpAny G.M A (call (.ref (G.cA c)) vals) (fun v s' => PostM G A X s c Q s' v) (PostX G A env ns ρ θ X s Ex) s := by
  have X' := O.X.keeps St.inv.base
  refine wpAny_call ?_
  have mk : ∀ {R : Result → Shared → Prop}, codeAny G.M (A.under (.builtin "type.__call__" ⟨.ref (G.cA c) :: vals, []⟩)) (.call (.ref fI) ⟨.ref (s.heap.objs.size + 1) :: vals, []⟩) (InitBack (s.heap.objs.size + 1) R)
      { s with heap := (s.heap.push emptyDict).push (instObj (G.cA c) s.heap.objs.size) } → codeAny G.M A (.call (.ref (G.cA c)) ⟨vals, []⟩) R s := fun {R} hq => by
    obtain ⟨hh, g, d, t, os⟩ := s
    exact make_core (makes_of X' N.makes) (looks_findIn X' N.init) (fun self => bind_fn X' self N.fn) (.inl rfl) hq
  refine mk ?_
  obtain ⟨hA', f1, f2⟩ := under_aok (C := .ref (G.cA c)) (vals := vals) hA
  generalize hA2 : A.under (.builtin "type.__call__" ⟨.ref (G.cA c) :: vals, []⟩) = A' at hA' f1 f2
  have fl : FL A' = FL A := by unfold FL; rw [f1]
  generalize hdx : s.heap.objs.size = dx
  have k2 : Kp [] [] s.heap ((s.heap.push emptyDict).push (instObj (G.cA c) dx)) := (Kp.push _).trans (.push _)
  have hz1 : (s.heap.push emptyDict).objs.size = dx + 1 := by rw [Heap.size_push, hdx]
  have hx : ((s.heap.push emptyDict).push (instObj (G.cA c) dx)).get? (dx + 1) = some (instObj (G.cA c) dx) := by rw [← hz1]; exact Heap.get?_push_size _ rfl
  have hd : ((s.heap.push emptyDict).push (instObj (G.cA c) dx)).get? dx = some emptyDict := by rw [← hdx]; exact Heap.get?_push_of_some _ (Heap.get?_push_size _ rfl)
  have hz : ((s.heap.push emptyDict).push (instObj (G.cA c) dx)).objs.size = dx + 2 := by rw [Heap.size_push, hz1]
  generalize hh2 : (s.heap.push emptyDict).push (instObj (G.cA c) dx) = h₂ at k2 hx hd hz
  have dX : dx ∉ X := fun q => absurd (St.own.lt dx q) (by rw [hdx]; exact Nat.lt_irrefl _)
  have dlt : dx < h₂.objs.size := by rw [hz]; omega
  have xX : dx + 1 ∉ dx :: X := fun q => (List.mem_cons.mp q).elim (fun e => Nat.succ_ne_self dx e) fun q => absurd (St.own.lt _ q) (by rw [hdx]; exact Nat.not_lt.mpr (Nat.le_succ dx))
  have k2F : Kp [] (FL A) s.heap h₂ := k2.mono (fun _ q => nomatch q) fun _ q => nomatch q
  have sub : ∀ a ∈ dx :: X, a ∈ X ∨ s.heap.objs.size ≤ a := fun a ha => (List.mem_cons.mp ha).elim (fun e => .inr (by rw [e, hdx]; exact Nat.le_refl _)) .inl
  have hnew : ∀ a ∈ dx :: X, G.h₀.get? a = none := fun a ha => (List.mem_cons.mp ha).elim (fun e => by rw [e]; exact base_none St.inv (by rw [hdx]; exact Nat.le_refl _)) (St.own.new a)
  have I₂ : Inv G A (dx :: X) h₂ := (St.inv.grow sub).kp k2F (fun _ q => nomatch q) hnew (fun _ _ q => nomatch q) (fun a ha => (St.own.fl a ha).2) (fun _ _ q => nomatch q)
  have I₂' : Inv G A' (dx :: X) h₂ := ⟨I₂.base, I₂.tabs, by rw [f1, f2]; exact I₂.fs, fun e he => I₂.frames e (by rw [← f1]; exact he)⟩
  have O₂ : Own G A' h₂ [dx] (dx :: X) := by
    refine ⟨fun a ha => ?_, fun a ha => ?_, ?_, fun a ha => ⟨fun q => ?_, ?_⟩, hnew⟩
    · rcases ha with ha | ha | ha
      · rw [List.mem_singleton.mp ha]; exact .head _
      · exact .tail _ (St.own.inX a (.inr (.inl ha)))
      · rw [fl] at ha; exact .tail _ (St.own.inX a (.inr (.inr ha)))
    · exact (List.mem_cons.mp ha).elim (fun e => by rw [e]; exact dlt) fun q => Nat.lt_of_lt_of_le (St.own.lt a q) k2.1
    · rw [List.nodup_append]
      exact ⟨by simp, (List.nodup_append.mp St.own.nd).2.1, fun x hx y hy e => dX (by rw [← List.mem_singleton.mp hx, e]; exact St.own.inX y (.inr (.inl hy)))⟩
    · rw [fl] at ha
      rw [List.mem_singleton.mp q] at ha
      exact dX (St.own.inX dx (.inr (.inr ha)))
    · rw [fl] at ha; exact (St.own.fl a ha).2
  have M₂ : Muts G h₂ [dx] (dx :: X) [.inst c []] := ⟨rfl, fun i a mo e1 e2 => by
    cases i with
    | succ i => exact nil_get (i := i) e1
    | zero =>
      cases e1; cases e2
      refine .inst (n := 0) (ts := []) (vs := []) ?_ rfl (Nat.zero_le _) .nil
      rw [mkEs_nil]; exact hd⟩
  have R₂ : Reps G h₂ [dx] (dx :: X) (.ref (dx + 1) :: vals) (.hi 0 c :: ds) := .cons (.hi rfl hx xX) ((R.uncl hc).kp k2 (fun _ q => nomatch q) (fun _ q => nomatch q) (fun _ _ e => nil_get e) sub)
  refine codeAny_mono (hS A' [dx] (dx :: X) { s with heap := h₂ } _ _ _ _ _ hA' I₂' O₂ M₂ R₂ p) fun r s' hr => ?_
  have up : ∀ {h'}, Kp ([dx] ++ G.tA) (FL A') h₂ h' → Kp G.tA (FL A) s.heap h' := fun kp => (k2.mono (W' := G.tA) (F' := FL A) (fun _ q => nomatch q) fun _ q => nomatch q).trans' kp (fun a ha => by
    rcases List.mem_append.mp ha with ha | ha
    · rw [List.mem_singleton.mp ha]; exact .inr (by rw [hdx]; exact Nat.le_refl _)
    · exact .inl ha) fun a ha => .inl (by rw [← fl]; exact ha)
  have iA : ∀ {X' h'}, Inv G A' X' h' → Inv G A X' h' := fun I => ⟨I.base, I.tabs, St.inv.fs, fun e he => I.frames e (by rw [f1]; exact he)⟩
  rcases r with v | (v | _ | _ | v)
  · obtain ⟨e, cc, μ', X₃, rfl, kp, I, gr, M, Xc, q, rr⟩ := hr
    have gr' : Grow G s.heap X s'.heap X₃ := ⟨fun a ha => gr.sup a (.tail _ ha), fun a ha => (gr.sub a ha).elim (sub a) fun l => .inr (Nat.le_trans k2.1 l), gr.lt, gr.new⟩
    have kp' := up kp
    refine ⟨θ, X₃, e, cc, μ, rfl, .of_grow (kp'.mono (fun a q => .inl (List.mem_append_right _ q)) fun _ q => .inl q) gr', ?_, (Xc.le k2.1).up St.own, q, rr⟩
    exact St.call (θ₁ := []) (fun a ha => nomatch ha) (by simpa using kp') (iA I) gr' St.muts.1 fun i a m h1 h2 => ⟨fun q => (nomatch q), fun _ => h2⟩
  · exact hr.elim
  · exact hr.elim
  · exact hr.elim
  · obtain ⟨d, μ', kp, I, M, Rv, ⟨hdn, q⟩, rr⟩ := hr
    obtain ⟨mo, rfl, Mr⟩ := muts_singleton M
    cases none_of Rv hdn
    subst hdx
    exact ⟨rfl, .mk mo (up kp) (iA I) (kp.get hx (fun q => by
      rcases List.mem_append.mp q with q | q
      · exact Nat.succ_ne_self _ (List.mem_singleton.mp q)
      · exact xX (.tail _ (St.own.inX _ (.inr (.inl q))))) fun q => xX (.tail _ (St.own.inX _ (.inr (.inr (fl ▸ q)))))) Mr (Nat.lt_of_lt_of_le dlt kp.1) q rr⟩
end
end Mine
namespace Mine
open PySem PySem.W PySem.Calls PyProof.Rows

section
variable {G : Gr} {b : Nat} {fs : Fs} {ns : List Str} {A : Around} {env : Env} {θ X θ' X' θ'' X'' : List Addr} {h h' h'' hs : Heap} {ρ ρ' : List (Option D)} {μ μ' : List MO} {s s' : Shared} {W : List Addr}

theorem Stt.call0 {X' : List Addr} (S : Stt G A env ns θ X h ρ μ) (kp : Kp G.tA (FL A) h h') (I : Inv G A X' h') (gr : Grow G h X h' X') : Stt G A env ns θ X' h' ρ μ :=
  S.call (θ₁ := []) (fun a ha => nomatch ha) kp I gr S.muts.1 fun i a m h1 h2 => ⟨fun q => (nomatch q), fun _ => h2⟩
/-- a new handle, made by a call -/
theorem Stt.newH {a : Addr} {mo : MO} (S : Stt G A env ns θ X h ρ μ) (kp : Kp G.tA (FL A) h h') (n1 : h.objs.size ≤ a) (n2 : a < h'.objs.size) (I : Inv G A (a :: X) h') (m : MRep G h' (a :: X) a mo) : Stt G A env ns (θ ++ [a]) (a :: X) h' ρ (μ ++ [mo]) ∧ Ext G A θ X h (θ ++ [a]) (a :: X) h' ∧ (θ ++ [a])[μ.length]? = some a := by
  have aX : a ∉ X := fun q => absurd (S.own.lt a q) (Nat.not_lt.mpr n1)
  have gr : Grow G h X h' (a :: X) := ⟨fun c q => .tail _ q, fun c q => (List.mem_cons.mp q).elim (fun e => .inr (e ▸ n1)) .inl, fun c q => (List.mem_cons.mp q).elim (fun e => e ▸ n2) fun q => Nat.lt_of_lt_of_le (S.own.lt c q) kp.1,
    fun c q => (List.mem_cons.mp q).elim (fun e => e ▸ base_none S.inv n1) (S.own.new c)⟩
  refine ⟨(S.call0 kp I gr).adopt (.head _) (fun q => aX (S.own.inX _ (.inl q))) (fun q => aX (S.own.inX _ (.inr (.inl q)))) (fun q => aX (S.own.inX _ (.inr (.inr q)))) (fun q => aX (S.eo.inX _ q)) m,
    ⟨kp.mono (fun c q => .inl (List.mem_append_right _ q)) (fun _ q => .inl q), ⟨[a], rfl, fun c q => List.mem_singleton.mp q ▸ n1⟩, gr.sup, gr.sub⟩, ?_⟩
  rw [← S.muts.1, List.getElem?_append_right (Nat.le_refl _), Nat.sub_self]; rfl
/-- the object is one's own: a handle -/
def tNewH (c : Cls) (L : PL) (S : PF) : PE := fun ρ μ Q Ex => L ρ μ (fun ds μ' => guard (clDs ds) (S (.hi 0 c :: ds) [.inst c []] (fun d m => d.isNone = some true ∧ one (fun _ mo => Q (.hi μ'.length c) (μ' ++ [mo])) () m) (fun e _ => Ex e μ'))) Ex
theorem EV_newH (O : G.Ok) {c : Cls} {fI : Addr} {S : PF} {x : Str} {np pos} {es : List Expr} {L : PL} (N : NewOk G c fI) (hS : FV G b fI S) (hl : EL G (b + 1) fs ns es L) (hn : noStar es = true) (hx : fs.sc.names.lookup x = some .globalImplicit)
    (hg : nsIn G.K mainGlobals x = some (some (.ref (G.cA c)))) (hd : (x == ("__debug__" : Str)) = false) : EV G (b + 1) fs ns (.Call (.Name x np) es [] pos) (tNewH c L S) := fun A env θ X s ρ μ Q Ex hA he St p => by
  obtain ⟨_, _, T⟩ := O.T
  refine wpAny_Call_Name_kw (Name_function_global St.eo.kind (by unfold Env.kindOf; rw [he.1]; exact hx) (loadGlobal_global (env := env) (by rw [St.eo.glob]; exact T.g.keeps St.inv.base) (mg_of O.X T.g hg) ?_) hd)
  refine callWith_any (G := G) (P := fun h => G.K.In h) hn (fun h X => keeps_K N.keep h X) (wpAny_mono (hl A env θ X s ρ μ _ Ex hA he St p) (fun vs s₁ h₁ => ?_) fun _ _ q => q)
  obtain ⟨θ₁, X₁, ds, μ₁, e₁, S₁, R₁, q₁, r₁⟩ := h₁
  obtain ⟨hc, q₁⟩ := guard.out q₁
  refine ⟨O.X.keeps S₁.inv.base, wpAny_mono (new_core O N hS hA S₁ (Q := fun mo => Q (.hi μ₁.length c) (μ₁ ++ [mo])) (Ex := Ex) R₁ hc q₁) (fun v s₂ h₂ => ?_) fun _ _ q => q.rebase e₁ r₁⟩
  obtain ⟨mo, kp, I, hx, M, dlt, q, r⟩ := h₂
  obtain ⟨S₃, ek, hh⟩ := S₁.newH kp (Nat.le_refl _) dlt I M
  exact ⟨_, _, _, _, e₁.trans ek, S₃, .hi hh hx (fun q => (List.mem_cons.mp q).elim (Nat.succ_ne_self _) fun q => absurd (S₁.own.lt _ q) (Nat.not_lt.mpr (Nat.le_succ _))), q, r₁.trans r⟩

/-- the object is handed out at once, its fields whatever they are -/
def mask : List D → List Value → List D
  | d :: ds, v :: vs => (if clD d = true then d else .val v) :: mask ds vs
  | _, _ => []
theorem mask_rep : ∀ {ds : List D} {vs : List Value}, Reps G h θ X vs ds → Reps G h θ X vs (mask ds vs) ∧ clDs (mask ds vs) = true
  | [], _, e => by cases e; exact ⟨Reps.nil, rfl⟩
  | d :: _, _, .mk (v := v) a r => by
    obtain ⟨r1, c1⟩ := mask_rep r
    show Reps G h θ X _ ((if clD d = true then d else .val v) :: mask _ _) ∧ (clD (if clD d = true then d else .val v) && clDs (mask _ _)) = true
    by_cases hc : clD d = true
    · rw [if_pos hc, hc, c1]
      exact ⟨.mk a r1, rfl⟩
    · rw [if_neg hc, c1]
      exact ⟨.mk (.val v) r1, rfl⟩
theorem mask_back : ∀ {ds : List D} {vs ws : List Value}, Reps G h θ X vs ds → Reps G h [] X' ws (mask ds vs) → (∀ c ∈ X, c ∈ X') → Reps G h θ X ws ds
  | [], _, _, e, r, _ => by cases e; exact r
  | d :: _, _, _, .mk (v := v) a r, .mk b q, hX => .mk (by
      have b : Rep G h [] X' _ (if clD d = true then d else .val v) := b
      by_cases hc : clD d = true
      · rw [if_pos hc] at b
        exact (rep_weak b hX).cl
      · rw [if_neg hc] at b
        cases b; exact a) (mask_back r q hX)
theorem mask_length : ∀ {ds : List D} {vs : List Value}, vs.length = ds.length → (mask ds vs).length = ds.length
  | [], _, _ => rfl
  | _ :: _, _ :: _, h => congrArg (· + 1) (mask_length (Nat.succ.inj h))
  | _ :: _, [], h => nomatch h
def tNewF (c : Cls) (L : PL) (S : PF) : PE := fun ρ μ Q Ex => L ρ μ (fun ds μ' => guard (Nat.beq ds.length c.names.length) ((∀ l : List D, l.length = ds.length → clDs l = true → S (.hi 0 c :: l) [.inst c []] (fun d m => d.isNone = some true ∧ one (fun _ mo => mo = .inst c l) () m) (fun _ _ => False)) ∧ Q (.inst c ds) μ')) Ex
theorem EV_newF (O : G.Ok) {c : Cls} {fI : Addr} {S : PF} {x : Str} {np pos} {es : List Expr} {L : PL} (N : NewOk G c fI) (hS : FV G b fI S) (hl : EL G (b + 1) fs ns es L) (hn : noStar es = true) (hx : fs.sc.names.lookup x = some .globalImplicit)
    (hg : nsIn G.K mainGlobals x = some (some (.ref (G.cA c)))) (hd : (x == ("__debug__" : Str)) = false) (hmono : ∀ ds μ Q Q' Ex Ex', (∀ d m, Q d m → Q' d m) → (∀ e m, Ex e m → Ex' e m) → S ds μ Q Ex → S ds μ Q' Ex') :
    EV G (b + 1) fs ns (.Call (.Name x np) es [] pos) (tNewF c L S) := fun A env θ X s ρ μ Q Ex hA he St p => by
  obtain ⟨_, _, T⟩ := O.T
  refine wpAny_Call_Name_kw (Name_function_global St.eo.kind (by unfold Env.kindOf; rw [he.1]; exact hx) (loadGlobal_global (env := env) (by rw [St.eo.glob]; exact T.g.keeps St.inv.base) (mg_of O.X T.g hg) ?_) hd)
  refine callWith_any (G := G) (P := fun h => G.K.In h) hn (fun h X => keeps_K N.keep h X) (wpAny_mono (hl A env θ X s ρ μ _ Ex hA he St p) (fun vs s₁ h₁ => ?_) fun _ _ q => q)
  obtain ⟨θ₁, X₁, ds, μ₁, e₁, S₁, R₁, q₁, r₁⟩ := h₁
  obtain ⟨hlen, hSp, q₁⟩ := beq_le q₁
  obtain ⟨Rm, cm⟩ := mask_rep R₁
  refine ⟨O.X.keeps S₁.inv.base, wpAny_mono (new_core O N hS hA S₁ (Q := fun mo => mo = .inst c (mask ds vs)) (Ex := Ex) Rm cm (hmono _ _ _ _ _ _ (fun _ _ z => z) (fun _ _ z => z.elim) (hSp (mask ds vs) (mask_length R₁.length) cm))) (fun v s₂ h₂ => ?_) fun _ _ q => q.rebase e₁ r₁⟩
  obtain ⟨mo, kp, I, hx, M, dlt, rfl, r⟩ := h₂
  have I' : Inv G A X₁ s₂.heap := ⟨I.base, fun t ht => (I.tabs t ht).mono (fun _ e => e) fun c s h1 h2 => ⟨h1, fun z => h2 (.tail _ z)⟩, I.fs, I.frames⟩
  have ek : Ext G A θ₁ X₁ s₁.heap θ₁ X₁ s₂.heap := .of_kp (kp.mono (fun a q => .inl (List.mem_append_right _ q)) fun _ q => .inl q)
  obtain ⟨g, l1, l2, rr⟩ : MI G s₂.heap _ _ c (mask ds vs) := M
  have rb := mask_back (R₁.ext S₁.own ek) rr fun a ha => .tail _ ha
  exact ⟨θ₁, X₁, _, _, e₁.trans ek, S₁.call0 kp I' (.same S₁.own kp.1), .inst hx g (fun q => absurd (S₁.own.lt _ q) (Nat.not_lt.mpr (Nat.le_succ _))) (fun q => Nat.lt_irrefl _ (S₁.own.lt _ q)) l1 rb (rb.length.trans hlen), q₁, r₁.trans r⟩
end
end Mine
namespace Mine
open PySem PySem.W PySem.Calls PyProof.Rows

section
variable {G : Gr} {b : Nat} {fs : Fs} {ns : List Str} {A : Around} {env : Env} {θ X θ' X' θ'' X'' : List Addr} {h h' h'' hs : Heap} {ρ ρ' : List (Option D)} {μ μ' : List MO} {s s' : Shared} {W : List Addr}

/-- a result that is a new list of its own -/
def newQ (n : Nat) (Q : List D → List MO → Prop) : D → List MO → Prop := fun d μ' => need d.hl? fun k => guard (Nat.ble n k) (need (μ'[k]?.bind MO.list?) fun l => Q l (μ'.take n))
def defN (np : Nat) (nr : Nat) (P : PS) : PN := fun ds μ Q Ex => guard (Nat.beq ds.length np) (P (ds.map some ++ List.replicate nr none) μ (fun _ _ => False) (newQ μ.length Q) (fun c μ' => Ex c (μ'.take μ.length)))
theorem FN_def (O : G.Ok) {fa : Addr} {name qual : Str} {params : Arguments} {body : List Stmt} {scope : Scope} {dV kV doc pm cdv ct oc : Value} {an od : Option Addr} {osl : Array (Option Value)} {names rest : List Str} {P : PS}
    (ho : G.K.lookup fa = some ⟨oc, od, .func (fnOf name qual params body scope dV kV doc pm an cdv ct), osl⟩) (hcd : codeIn G.K cdv qual = true)
    (hbind : ∀ (s : Shared) (vals : List Value), G.K.In s.heap → vals.length + ([] : List Value).length = names.length → BindsTo s (fnOf name qual params body scope dV kV doc pm an cdv ct) ⟨vals, []⟩ (names.zip (vals ++ [])))
    (hns : ns = names ++ rest) (hnd : names.Nodup) (hkind : ∀ n ∈ names, scope.names.lookup n = some .local ∨ scope.names.lookup n = some .cell) (hsn : (scope.names.map (·.1)).Nodup)
    (hk : scope.kind = .function) (hco : scope.isCoroutine = false) (hgen : scope.isGenerator = false)
    (hB : SB G b ⟨scope, cdv, qual ++ ".<locals>."⟩ ns body P) : FN G (b + 1) fa (defN names.length rest.length P) := fun A θ X s vals ds μ Q Ex hA I W M R p => by
  obtain ⟨hlen, p⟩ := beq_le p
  refine codeAny_mono (FR_def O ho hcd hbind (dds := []) (fun _ _ _ _ _ => Reps.nil) hns hnd hkind hsn hk hco hgen hB (Q := newQ μ.length Q) (Ex := fun c μ' => Ex c (μ'.take μ.length)) hA I W M R hlen (by rw [List.append_nil]; exact p)) fun r s' q => ?_
  rcases r with v | (v | _ | _ | v)
  · obtain ⟨e, c, μ', X', rfl, a1, a2, a3, a4, a5, a6, a7⟩ := q
    exact ⟨e, c, _, X', rfl, a1, a2, a3, a4, a5, a6, a7⟩
  · exact q
  · exact q
  · exact q
  · obtain ⟨θ', X', d, μ', a1, a2, a3, ⟨nw, rfl, a4⟩, a5, a6, a7, a8⟩ := q
    refine need.elim a7 fun k hd a7 => ?_
    obtain ⟨hk, a7⟩ := guard.le a7
    refine need.elim a7 fun l hl a7 => ?_
    obtain ⟨ea⟩ := a6.ofHl hd
    obtain ⟨hl, Ml⟩ := list_of_hl a5 ea hl
    rw [← M.1] at hk a7
    have ea' := ea
    rw [List.getElem?_append_right hk] at ea'
    obtain ⟨n1, n2⟩ := a4 _ (List.mem_of_getElem? ea')
    have Iw : ∀ {X₀ : List Addr}, (∀ c ∈ X₀, c ∈ X') → Inv G A X₀ s'.heap := fun {X₀} hX => ⟨a2.base, fun t ht => (a2.tabs t ht).mono (fun _ e => e) fun c s h1 h2 => ⟨h1, fun z => h2 (hX _ z)⟩, a2.fs, a2.frames⟩
    have t := Muts.take a5
    exact ⟨_, l, μ'.take θ.length, rfl, n1, a3.lt _ n2, mrep_weak (mo := .list l) Ml (fun c hc => (List.mem_cons.mp hc).elim (fun e => e ▸ n2) (a3.sup c)), a1, Iw a3.sup, Iw fun c hc => (List.mem_cons.mp hc).elim (fun e => e ▸ n2) (a3.sup c), ⟨t.1, fun i a mo e1 e2 => mrep_weak (t.2 i a mo e1 e2) a3.sup⟩, a7, a8⟩

def tCallN (L : PL) (S : PN) : PE := fun ρ μ Q Ex => L ρ μ (fun ds μ' => guard (clDs ds) (S ds [] (fun l _ => Q (.hl μ'.length) (μ' ++ [.list l])) (fun e _ => Ex e μ'))) Ex
theorem EV_callN (O : G.Ok) {x : Str} {np pos} {es : List Expr} {L : PL} {fa : Addr} {S : PN} (hS : FN G b fa S) (hl : EL G b fs ns es L) (hn : noStar es = true) (hx : fs.sc.names.lookup x = some .globalImplicit)
    (hg : nsIn G.K mainGlobals x = some (some (.ref fa))) (hk : keepIn G.K (.ref fa) = true) (hd : (x == ("__debug__" : Str)) = false) : EV G b fs ns (.Call (.Name x np) es [] pos) (tCallN L S) := fun A env θ X s ρ μ Q Ex hA he St p => by
  obtain ⟨_, _, T⟩ := O.T
  refine wpAny_Call_Name_kw (Name_function_global St.eo.kind (by unfold Env.kindOf; rw [he.1]; exact hx) (loadGlobal_global (env := env) (by rw [St.eo.glob]; exact T.g.keeps St.inv.base) (mg_of O.X T.g hg) ?_) hd)
  refine callWith_any (G := G) (P := fun h => G.K.In h) hn (fun h X => keeps_K hk h X) (wpAny_mono (hl A env θ X s ρ μ _ Ex hA he St p) (fun vs s₁ h₁ => ?_) fun _ _ q => q)
  obtain ⟨θ₁, X₁, ds, μ₁, e₁, S₁, R₁, q₁, r₁⟩ := h₁
  obtain ⟨hc, q₁⟩ := guard.out q₁
  refine ⟨O.X.keeps S₁.inv.base, wpAny_call (codeAny_mono (hS A [] X₁ s₁ vs ds [] _ _ hA S₁.inv S₁.own.nil .nil (R₁.uncl hc).cl q₁) fun res s₂ hr => ?_)⟩
  rcases res with w | (w | _ | _ | w)
  · obtain ⟨e, c, μ', X', rfl, kp, I, gr, M, Xc, q, rr⟩ := hr
    have kp : Kp G.tA (FL A) s₁.heap s₂.heap := kp
    exact PostX.rebase e₁ r₁ ⟨θ₁, X', e, c, _, rfl, .of_grow (kp.mono (fun a q => .inl (List.mem_append_right _ q)) fun _ q => .inl q) gr, S₁.call0 kp I gr, Xc.up S₁.own, q, rr⟩
  · exact hr.elim
  · exact hr.elim
  · exact hr.elim
  · obtain ⟨a, l, μ', rfl, n1, n2, Ml, kp, I, I2, M, q, rr⟩ := hr
    obtain ⟨S₃, ek, hh⟩ := S₁.newH kp n1 n2 I2 Ml
    exact ⟨_, _, _, _, e₁.trans ek, S₃, .hl hh, q, r₁.trans rr⟩
end
end Mine
namespace Mine
open PySem PySem.W PySem.Calls PyProof.Rows

section
variable {G : Gr} {b : Nat} {fs : Fs} {ns : List Str} {A : Around} {env : Env} {θ X θ' X' θ'' X'' : List Addr} {h h' h'' hs : Heap} {ρ ρ' : List (Option D)} {μ μ' : List MO} {s s' : Shared} {W : List Addr}

/-! ## the closure of a comprehension -/
def relabelS (scope sc : Scope) : Scope :=
  { scope with names := scope.names.map fun (n, k) => if (k == .free && sc.kind == .function && sc.names.lookup n == some .cell) then (n, .cell) else (n, k) }
theorem relabel_eq (scope : Scope) (env : Env) : relabel scope env = relabelS scope env.scope := rfl
def clF (env : Env) : List (Str × NameKind) → List (Str × Addr) → List (Str × Addr)
  | [], acc => acc
  | (n, k) :: r, acc => if k == .free then clF env r ((n, (env.cells.lookup n).getD 0) :: acc) else clF env r acc
theorem closure_ok {env : Env} : ∀ (names : List (Str × NameKind)) (acc : List (Str × Addr)), (∀ n, (n, NameKind.free) ∈ names → ∃ c, env.cells.lookup n = some c) →
    (forIn names acc fun x cs => (match x with | (name, kind) => if (kind == .free) = true then (do let __do_lift ← cellOf env name; pure (ForInStep.yield ((name, __do_lift) :: cs))) else pure (ForInStep.yield cs) : Sem (ForInStep (List (Str × Addr))))) = pure (clF env names acc)
  | [] => fun acc _ => rfl
  | (n, k) :: r => fun acc h => by
    rw [List.forIn_cons]
    unfold clF
    by_cases hk : (k == NameKind.free) = true
    · have hk' : k = .free := eq_of_beq hk
      subst hk'
      obtain ⟨c, hc⟩ := h n (.head _)
      have e : cellOf env n = pure c := by unfold cellOf; rw [hc]
      rw [if_pos hk]
      dsimp only
      rw [if_pos hk, e, hc]
      exact closure_ok r _ fun m hm => h m (.tail _ hm)
    · rw [if_neg hk]
      dsimp only
      rw [if_neg hk]
      exact closure_ok r _ fun m hm => h m (.tail _ hm)
theorem closure_pure {scope : Scope} {env : Env} (h : ∀ n, (n, NameKind.free) ∈ scope.names → ∃ c, env.cells.lookup n = some c) : closureFor scope env = pure (clF env scope.names []) := by
  unfold closureFor
  have := closure_ok scope.names [] h
  first
    | exact this
    | (simp only [bind_pure]; exact this)
theorem clF_mem {env : Env} : ∀ (names : List (Str × NameKind)) (acc : List (Str × Addr)) (p : Str × Addr), p ∈ clF env names acc → p ∈ acc ∨ ((p.1, NameKind.free) ∈ names ∧ p.2 = (env.cells.lookup p.1).getD 0)
  | [] => fun acc p h => .inl h
  | (n, k) :: r => fun acc p h => by
    unfold clF at h
    by_cases hk : (k == NameKind.free) = true
    · rw [if_pos hk] at h
      cases eq_of_beq hk
      rcases clF_mem r _ p h with h | h
      · rcases List.mem_cons.mp h with rfl | h
        · exact .inr ⟨.head _, rfl⟩
        · exact .inl h
      · exact .inr ⟨.tail _ h.1, h.2⟩
    · rw [if_neg hk] at h
      exact (clF_mem r _ p h).imp id fun h => ⟨.tail _ h.1, h.2⟩
theorem clF_look {env : Env} : ∀ (names : List (Str × NameKind)) (acc : List (Str × Addr)) (x : Str), (x, NameKind.free) ∈ names ∨ (∃ c, acc.lookup x = some c) → ∃ c, (clF env names acc).lookup x = some c
  | [] => fun acc x h => h.elim (fun q => nomatch q) id
  | (n, k) :: r => fun acc x h => by
    unfold clF
    by_cases hk : (k == NameKind.free) = true
    · rw [if_pos hk]
      refine clF_look r _ x ?_
      rcases h with h | h
      · rcases List.mem_cons.mp h with e | h
        · cases e; exact .inr ⟨_, List.lookup_cons_self⟩
        · exact .inl h
      · right
        rw [List.lookup_cons]
        cases x == n with
        | true => exact ⟨_, rfl⟩
        | false => exact h
    · rw [if_neg hk]
      refine clF_look r _ x (h.imp_left fun h => ?_)
      rcases List.mem_cons.mp h with e | h
      · cases e; exact absurd rfl hk
      · exact h
theorem clF_keys {env : Env} : ∀ (names : List (Str × NameKind)) (acc : List (Str × Addr)), (∀ p ∈ acc, p.1 ∉ names.map (·.1)) → (acc.map (·.1)).Nodup → (names.map (·.1)).Nodup → ((clF env names acc).map (·.1)).Nodup
  | [] => fun _ _ h _ => h
  | (y, k) :: r => fun acc hd h hn => by
    rw [List.map_cons, List.nodup_cons] at hn
    unfold clF
    by_cases hk : (k == NameKind.free) = true
    · rw [if_pos hk]
      refine clF_keys r _ (fun p hp => ?_) ?_ hn.2
      · exact (List.mem_cons.mp hp).elim (fun e => e ▸ hn.1) fun hp q => hd p hp (.tail _ q)
      · rw [List.map_cons, List.nodup_cons]
        refine ⟨fun q => ?_, h⟩
        obtain ⟨p, hp, e⟩ := List.mem_map.mp q
        exact hd p hp (e ▸ .head _)
    · rw [if_neg hk]
      exact clF_keys r _ (fun p hp q => hd p hp (.tail _ q)) h hn.2

/-! ## the tests of a comprehension -/
def CT (G : Gr) (b : Nat) (fs : Fs) (ns : List Str) (ifs : List Expr) (P : PT) : Prop :=
  ∀ (A : Around) (env : Env) (θ X : List Addr) (s : Shared) ρ μ Q Ex, AOk A b → fs.ok env → Stt G A env ns θ X s.heap ρ μ → P ρ μ Q Ex →
    wpAny G.M A (forIn ifs true fun c r => if r = true then do let ok ← isTrue c env (eval c env); pure (ForInStep.yield ok) else pure (ForInStep.yield r)) (PostT G A env ns ρ θ X s Q) (PostX G A env ns ρ θ X s Ex) s
theorem CT_nil : CT G b fs ns [] (tB true) := fun A env θ X s ρ μ Q Ex hA he S p => wpAny_tests_nil ⟨θ, X, μ, .refl, S, p, .refl⟩
theorem CT_one {c : Expr} {P : PT} (h : ET G b fs ns c P) : CT G b fs ns [c] P := fun A env θ X s ρ μ Q Ex hA he S p => wpAny_tests_one (h A env θ X s ρ μ Q Ex hA he S p)

/-- a turn of a comprehension -/
def CTurn (M : Model) (A : Around) (elt target : Expr) (ifs : List Expr) (it acc : Value) (env : Env) (R J : Shared → Prop) : Option Value → Shared → Prop
  | none => R
  | some v => wpAny M A (letOwnedTupleGo target it v) (fun _ => wpAny M A (assign target env v) (fun _ => wpAny M A (forIn ifs true fun c r => if r = true then do let ok ← isTrue c env (eval c env); pure (ForInStep.yield ok) else pure (ForInStep.yield r)) (fun ok => match ok with
    | true => wpAny M A (eval elt env) (fun x => wpAny M A (call (.builtin "list.append") [acc, x]) (fun _ => J) (fun _ _ => False)) (fun _ _ => False)
    | false => J) (fun _ _ => False)) (fun _ _ => False)) (fun _ _ => False)
theorem no_exc {α : Type} {M : Model} {t : Sem α} {Q : α → Shared → Prop} {E : Value → Shared → Prop} (h : wpAny M A t Q (fun _ _ => False) s) : wpAny M A t Q E s := wpAny_mono h (fun _ _ x => x) fun _ _ f => f.elim
theorem compLoop_any {M : World} {prog : Program} {R : Result → Shared → Prop} {elt target iter : Expr} {ifs : List Expr} {scope : Scope} {pos : Pos} {it acc : Value} {env : Env} (I : Nat → Shared → Prop)
    (turn : ∀ n s, I n s → wpAny (model prog M) A (pyNext it) (CTurn (model prog M) A elt target ifs it acc env (R (.ok .next)) fun s => ∃ m, m < n ∧ I m s) (fun _ _ => False) s)
    (n : Nat) (h : I n s) : codeAny (model prog M) A (.compLoop (.ListComp elt [⟨target, iter, ifs, 0⟩] scope pos) 0 it acc env) R s := by
  refine codeAny_loop rfl I (fun n s hI => ?_) n h
  show wpAny _ A ((compTurn (.ListComp elt [⟨target, iter, ifs, 0⟩] scope pos) 0 it acc env).onRaise (fun x => do noteFrame x env; theTreesLotGoes x)) _ _ s
  refine wpAny_noted ?_
  rw [compTurn_list]
  refine wpAny_bind (wpAny_standAt (wpAny_bind (wpAny_mono (turn n s hI) (fun r s₁ h₁ => ?_) fun _ _ f => f.elim)))
  cases r with
  | none => exact wpAny_pure h₁
  | some v =>
    refine wpAny_bind (no_exc (wpAny_mono h₁ (fun _ s₁' h₁' => wpAny_bind (no_exc (wpAny_mono h₁' (fun _ s₂ h₂ => wpAny_bind (no_exc (wpAny_mono h₂ (fun ok s₃ h₃ => ?_) fun _ _ h' => h'))) fun _ _ h' => h'))) fun _ _ h' => h'))
    cases ok with
    | false => exact wpAny_pure ⟨rfl, h₃⟩
    | true => exact wpAny_bind (wpAny_bind (no_exc (wpAny_mono h₃ (fun x s₄ h₄ => wpAny_bind (no_exc (wpAny_mono h₄ (fun _ s₅ h₅ => wpAny_pure (wpAny_pure ⟨rfl, h₅⟩)) fun _ _ h' => h'))) fun _ _ h' => h')))
end
end Mine
namespace Mine
open PySem PySem.W PySem.Calls PyProof.Rows

section
variable {G : Gr} {b : Nat} {fs : Fs} {ns nsc : List Str} {A : Around} {env cenv : Env} {θ X θ' X' θ'' X'' : List Addr} {h h' h'' hs : Heap} {ρ ρ' : List (Option D)} {μ μ' : List MO} {s s' : Shared} {W : List Addr}

/-- the outer block's state, from the inner one's -/
theorem Stt.back' (S : Stt G A env ns θ X h ρ μ) (e : Ext G A θ X h θ' X' h') (I : Inv G A X' h') (O : Own G A h' θ' X') (M : Muts G h' θ' X' μ') : Stt G A env ns θ' X' h' ρ μ' := by
  have hE : ∀ a ∈ envA env, a ∉ θ ++ G.tA := fun a ha q => (List.mem_append.mp q).elim (S.eo.off a ha).1 (S.eo.off a ha).2
  have E := S.eo.kp e.kp hE
  refine ⟨I, O, M, ⟨E.kind, E.glob, E.ns, E.cells, fun a ha => e.sup a (E.inX a ha), fun a ha => ⟨fun q => ?_, (E.off a ha).2⟩, E.nd, E.nfl⟩, fun i d q => ?_⟩
  · obtain ⟨nw, rfl, hnw⟩ := e.new
    rcases List.mem_append.mp q with q | q
    · exact (E.off a ha).1 q
    · exact absurd (S.own.lt a (S.eo.inX a ha)) (Nat.not_lt.mpr (hnw a q))
  · obtain ⟨x, v, e1, V, R⟩ := S.var i d q
    exact ⟨x, v, e1, V.kp e.kp hE, R.ext S.own e⟩
theorem Stt.back (S : Stt G A env ns θ X h ρ μ) (e : Ext G A θ X h θ' X' h') (S' : Stt G A cenv nsc θ' X' h' ρ' μ') : Stt G A env ns θ' X' h' ρ μ' := S.back' e S'.inv S'.own S'.muts
theorem Stt.shrink (S : Stt G A env ns θ X h ρ μ) (hX : ∀ a ∈ X', a ∈ X) (hin : ∀ a, a ∈ θ ∨ a ∈ G.tA ∨ a ∈ FL A ∨ a ∈ envA env → a ∈ X') : Stt G A env ns θ X' h ρ μ := by
  refine ⟨⟨S.inv.base, fun q hq => (S.inv.tabs q hq).mono (fun _ e => e) fun c s h1 h2 => ⟨h1, fun z => h2 (hX c z)⟩, S.inv.fs, S.inv.frames⟩, ⟨fun a ha => hin a (ha.imp id (Or.imp id .inl)), fun a ha => S.own.lt a (hX a ha), S.own.nd, S.own.fl, fun a ha => S.own.new a (hX a ha)⟩,
    ⟨S.muts.1, fun i a mo e1 e2 => mrep_weak (S.muts.2 i a mo e1 e2) hX⟩, ⟨S.eo.kind, S.eo.glob, S.eo.ns, S.eo.cells, fun a ha => hin a (.inr (.inr (.inr ha))), S.eo.off, S.eo.nd, S.eo.nfl⟩, fun i d e => ?_⟩
  obtain ⟨x, v, e1, V, R⟩ := S.var i d e
  exact ⟨x, v, e1, V, R.wk hX⟩

def compT (T : PG) (C : PT) (P : PE) (K : List D → List MO → Prop) : List D → List D → List (Option D) → List MO → Prop
  | [], acc, _, μ => K acc μ
  | d :: ds, acc, ρ, μ => T d ρ (fun ρ' => C ρ' μ (fun ok μ' => br ok (P ρ' μ' (fun y μ'' => compT T C P K ds (acc ++ [y]) ρ' μ'') (fun _ _ => False)) (compT T C P K ds acc ρ' μ')) (fun _ _ => False))
/-- what the inner block sees of the outer one's names -/
def capR (capt : List (Option Nat)) (ρ : List (Option D)) : List (Option D) := capt.map fun c => c.bind fun i => ρ[i]?.join
def tComp (capt : List (Option Nat)) (I : PI) (T : PG) (C : PT) (P : PE) : PE := fun ρ μ Q Ex => I ρ μ (fun ds μ' => guard (Nat.ble ds.length 1000000) (compT T C P (fun acc μ'' => Q (.list acc) μ'') ds [] (capR capt ρ) μ')) Ex
/-- the inner names that are captured; kd: what they are inside -/
def capG (kd : Str → Prop) (scope sc : Scope) (ns nsc : List Str) (capt : List (Option Nat)) : Prop :=
  ∀ (j i : Nat), capt[j]? = some (some i) → ∃ x, nsc[j]? = some x ∧ ns[i]? = some x ∧ (x, NameKind.free) ∈ scope.names ∧ sc.names.lookup x = some .cell ∧ kd x
/-- the cells that an inner block holds -/
structure Held (G : Gr) (A : Around) (nsl : List Str) (kd : Str → Prop) (cl : List (Str × Addr)) (θ X : List Addr) (h : Heap) (ρl : List (Option D)) : Prop where
  cells : ∀ p ∈ cl, ∃ v, h.IsCell p.2 v
  inX : ∀ p ∈ cl, p.2 ∈ X
  off : ∀ p ∈ cl, p.2 ∉ θ ∧ p.2 ∉ G.tA
  nd : (cl.map (·.2)).Nodup
  nfl : ∀ p ∈ cl, p.2 ∉ FL A
  var : ∀ (j : Nat) d, ρl[j]? = some (some d) → ∃ x v c, nsl[j]? = some x ∧ kd x ∧ cl.lookup x = some c ∧ h.IsCell c (some v) ∧ Rep G h θ X v d
section
variable {scope : Scope} {capt : List (Option Nat)} {CC : Addr} {m : Str → Option Value} {kd : Str → Prop} {nsl : List Str} {cl : List (Str × Addr)} {ρl : List (Option D)}
theorem cl_cells (hf : ∀ n, (n, NameKind.free) ∈ scope.names → fs.sc.names.lookup n = some .cell) (he : fs.ok env) : ∀ p ∈ clF env scope.names [], (p.1, p.2) ∈ env.cells ∧ env.cells.lookup p.1 = some p.2 := fun p hp => by
  rcases clF_mem _ _ p hp with q | ⟨q1, q2⟩
  · cases q
  · obtain ⟨c, hc⟩ := he.2.2.2.2 p.1 (hf p.1 q1)
    rw [hc] at q2
    have e : env.cells.lookup p.1 = some p.2 := by rw [hc, q2]; rfl
    exact ⟨lookup_mem e, e⟩
theorem held_of (S : Stt G A env ns θ X h ρ μ) (he : fs.ok env) (hkeys : (scope.names.map (·.1)).Nodup) (hf : ∀ n, (n, NameKind.free) ∈ scope.names → fs.sc.names.lookup n = some .cell) (hcap : capG kd scope fs.sc ns nsl capt) : Held G A nsl kd (clF env scope.names []) θ X h (capR capt ρ) := by
  have cc := cl_cells hf he
  have hco : ∀ p ∈ clF env scope.names [], p.2 ∈ envA env := fun p hp => .tail _ (List.mem_map.mpr ⟨_, (cc p hp).1, rfl⟩)
  refine ⟨fun p hp => S.eo.cells (p.1, p.2) (cc p hp).1, fun p hp => S.eo.inX _ (hco p hp), fun p hp => S.eo.off _ (hco p hp), ?_, fun p hp => S.eo.nfl (p.1, p.2) (cc p hp).1, fun j d e => ?_⟩
  · have hk := clF_keys (env := env) scope.names [] (fun _ q => nomatch q) List.nodup_nil hkeys
    have nd := (List.nodup_cons.mp S.eo.nd).2
    rw [List.Nodup, List.pairwise_map] at hk ⊢
    refine hk.imp_of_mem fun {p q} hp hq hne e => hne ?_
    obtain ⟨j1, b1, e1⟩ := List.getElem_of_mem (cc p hp).1
    obtain ⟨j2, b2, e2⟩ := List.getElem_of_mem (cc q hq).1
    have g1 := List.getElem?_map (f := fun x : Str × Addr => x.2) (l := env.cells) (i := j1)
    have g2 := List.getElem?_map (f := fun x : Str × Addr => x.2) (l := env.cells) (i := j2)
    rw [List.getElem?_eq_getElem b1, e1] at g1
    rw [List.getElem?_eq_getElem b2, e2] at g2
    cases nodup_ne nd g1 (g2.trans (congrArg some e.symm))
    exact congrArg Prod.fst (e1.symm.trans e2)
  · unfold capR at e
    rw [List.getElem?_map] at e
    obtain ⟨c, hc, e⟩ := Option.map_eq_some_iff.mp e
    obtain ⟨i, rfl, e⟩ := Option.bind_eq_some_iff.mp e
    obtain ⟨x, hx1, hx2, hx3, hx4, hx5⟩ := hcap j i hc
    obtain ⟨y, v, g1, V, R⟩ := S.var i d (Option.join_eq_some_iff.mp e)
    cases hx2.symm.trans g1
    have kx : env.kindOf x = some .cell := by unfold Env.kindOf; rw [he.1]; exact hx4
    rcases V with ⟨h1, _⟩ | ⟨h1, c, h2, h3⟩
    · rw [kx] at h1; cases h1
    · obtain ⟨c', hc'⟩ := clF_look (env := env) scope.names [] x (.inl hx3)
      exact ⟨x, v, c, hx1, hx5, h2.symm.trans (cc (x, c') (mem_of_lookup hc')).2 ▸ hc', h3, R⟩
theorem Held.move {A' : Around} (H : Held G A nsl kd cl θ X h ρl) (O : Own G A h θ X) (k : Kp [] [] h h') (sup : ∀ a ∈ X, a ∈ X') (sub : ∀ a ∈ X', a ∈ X ∨ h.objs.size ≤ a) (nf : ∀ a ∈ X, a ∉ FL A → a ∉ FL A') : Held G A' nsl kd cl θ X' h' ρl := by
  refine ⟨fun p hp => ?_, fun p hp => sup _ (H.inX p hp), H.off, H.nd, fun p hp => nf _ (H.inX p hp) (H.nfl p hp), fun j d e => ?_⟩
  · obtain ⟨v, hv⟩ := H.cells p hp
    exact ⟨v, k.cell hv fun q => nomatch q⟩
  · obtain ⟨x, v, c, g1, g2, g3, g4, R⟩ := H.var j d e
    exact ⟨x, v, c, g1, g2, g3, k.cell g4 (fun q => nomatch q), R.kp (k.mono (W' := []) (F' := FL A) (fun _ q => nomatch q) fun _ q => nomatch q) (fun _ q => nomatch q) O.FLX (fun _ _ e => e) sub⟩
/-- the inner block's state, from what it holds -/
theorem Held.stt (H : Held G A nsl kd cl θ X h ρl) (I : Inv G A X h) (O : Own G A h θ X) (M : Muts G h θ X μ) (ec : cenv.cells = cl) (hk : cenv.scope.kind = .function) (hg : cenv.globals = mainGlobals) (hns : h.Ns cenv.locals m) (hL : cenv.locals ∈ X ∧ cenv.locals ∉ θ ∧ cenv.locals ∉ G.tA) (hn : ∀ p ∈ cl, p.2 ≠ cenv.locals)
    (hv : ∀ x, kd x → cenv.kindOf x = some .cell ∨ cenv.kindOf x = some .free) : Stt G A cenv nsl θ X h ρl μ := by
  subst ec
  refine ⟨I, O, M, ⟨hk, hg, ⟨m, hns⟩, H.cells, fun a ha => ?_, fun a ha => ?_, List.nodup_cons.mpr ⟨fun q => ?_, H.nd⟩, H.nfl⟩, fun j d e => ?_⟩
  · rcases List.mem_cons.mp ha with e | ha
    · exact e ▸ hL.1
    · obtain ⟨p, hp, rfl⟩ := List.mem_map.mp ha
      exact H.inX p hp
  · rcases List.mem_cons.mp ha with e | ha
    · exact e ▸ hL.2
    · obtain ⟨p, hp, rfl⟩ := List.mem_map.mp ha
      exact H.off p hp
  · obtain ⟨p, hp, e⟩ := List.mem_map.mp q
    exact hn p hp e
  · obtain ⟨x, v, c, g1, g2, g3, g4, R⟩ := H.var j d e
    exact ⟨x, v, g1, .inr ⟨hv x g2, c, g3, g4⟩, R⟩
end
/-- what is asked of a comprehension's scope -/
structure CompOk (fs : Fs) (ns nsc : List Str) (scope : Scope) (capt : List (Option Nat)) : Prop where
  cell : ∀ y ∈ scope.names, y.2 ≠ .cell
  kind : scope.kind = .function
  loc : ∀ y ∈ scope.names, y.2 = .local → scope.names.lookup y.1 = some .local
  keys : (scope.names.map (·.1)).Nodup
  free : ∀ n, (n, NameKind.free) ∈ scope.names → fs.sc.names.lookup n = some .cell
  cl : ∀ x, (relabelS scope fs.sc).names.lookup x = some .cell → (x, NameKind.free) ∈ scope.names
  cap : capG (fun x => (relabelS scope fs.sc).names.lookup x = some .cell) scope fs.sc ns nsc capt
abbrev cFs (fs : Fs) (scope : Scope) : Fs := ⟨relabelS scope fs.sc, fs.code, fs.qual⟩
abbrev cEnv (scope : Scope) (env : Env) (CC : Addr) : Env := compEnvC scope (clF env scope.names []) CC env

section
variable {scope : Scope} {capt : List (Option Nat)} {CC : Addr} {m : Str → Option Value}
theorem cl_env (ok : CompOk fs ns nsc scope capt) (he : fs.ok env) : ∀ a ∈ envA (cEnv scope env CC), a = CC ∨ a ∈ envA env := fun a ha => by
  rcases List.mem_cons.mp ha with e | ha
  · exact .inl e
  · obtain ⟨p, hp, rfl⟩ := List.mem_map.mp ha
    exact .inr (.tail _ (List.mem_map.mpr ⟨_, (cl_cells ok.free he p hp).1, rfl⟩))
/-- the inner block entered -/
theorem comp_enter (ok : CompOk fs ns nsc scope capt) (he : fs.ok env) (S : Stt G A env ns θ X h ρ μ) (S' : Stt G A env ns θ X' h' ρ μ) (hC : CC ∈ X') (CX : CC ∉ X) (hns : h'.Ns CC m) : Stt G A (cEnv scope env CC) nsc θ X' h' (capR capt ρ) μ :=
  (held_of (kd := fun x => (relabelS scope fs.sc).names.lookup x = some .cell) S' he ok.keys ok.free ok.cap).stt S'.inv S'.own S'.muts rfl ok.kind S.eo.glob hns ⟨hC, fun q => CX (S.own.inX _ (.inl q)), fun q => CX (S.own.inX _ (.inr (.inl q)))⟩
    (fun p hp e => CX ((show p.2 = CC from e) ▸ S.eo.inX p.2 (.tail _ (List.mem_map.mpr ⟨_, (cl_cells ok.free he p hp).1, rfl⟩)))) fun x hx => .inl (by show (relabel scope env).names.lookup x = some .cell; rw [relabel_eq, he.1]; exact hx)
theorem cFs_ok (ok : CompOk fs ns nsc scope capt) (he : fs.ok env) : (cFs fs scope).ok (cEnv scope env CC) :=
  ⟨(relabel_eq scope env).trans (congrArg (relabelS scope) he.1), he.2.1, he.2.2.1, he.2.2.2.1, fun x hx => clF_look (env := env) scope.names [] x (.inl (ok.cl x hx))⟩
end

/-- the state of a comprehension's loop; DD: the list that is built -/
inductive CompI (G : Gr) (A : Around) (cenv : Env) (nsc : List Str) (θ₁ X₁ X₀ : List Addr) (z : Nat) (DD : Addr) (St : Nat → Heap → Prop) (s₁ : Shared) (ds : List D) (J : List D → List D → List (Option D) → List MO → Prop) (k : Nat) (s : Shared) : Prop
  | mk (i θ X ρ μ ys acc n) : i ≤ ds.length → k = ds.length + 1 - i → Ext G A θ₁ X₁ s₁.heap θ X s.heap → Wst G A cenv nsc θ₁ X₀ z St i θ X s.heap ρ μ → s.heap.get? DD = some (listOf (List.toArray ys) n) → Reps G s.heap θ X ys acc → ys.length ≤ i → J (ds.drop i) acc ρ μ → Rest s₁ s → CompI G A cenv nsc θ₁ X₁ X₀ z DD St s₁ ds J k s
/-- how it ends -/
inductive CompE (G : Gr) (A : Around) (cenv : Env) (nsc : List Str) (θ₁ X₁ X₀ : List Addr) (z : Nat) (DD : Addr) (s₁ : Shared) (Q : List D → List MO → Prop) (s : Shared) : Prop
  | mk (θ X ρ μ ys acc n) : Ext G A θ₁ X₁ s₁.heap θ X s.heap → Stt G A cenv nsc θ X s.heap ρ μ → (∀ c ∈ θ, c ∈ θ₁ ∨ z ≤ c) → (∀ c ∈ X₀, c ∈ X) → s.heap.get? DD = some (listOf (List.toArray ys) n) → Reps G s.heap θ X ys acc → Q acc μ → Rest s₁ s → CompE G A cenv nsc θ₁ X₁ X₀ z DD s₁ Q s
theorem comp_turn {elt target : Expr} {ifs : List Expr} {fs' : Fs} {T : PG} {C : PT} {P : PE} {K : List D → List MO → Prop} {s₁ s₃ : Shared} {θ₁ X₁ X₀ fp wr : List Addr} {ds : List D} {z k : Nat} {DD I : Addr} {St : Nat → Heap → Prop} (ht : TL G b fs' nsc target T) (hc : CT G b fs' nsc ifs C) (hp : EV G b fs' nsc elt P)
    (hA : AOk A b) (he : fs'.ok cenv) (Wk : Turns G A θ₁ X₁ s₁.heap target I fp wr ds St) (ap : Apart G A cenv θ₁ fp z) (hwX : ∀ c ∈ wr, c ∈ X₀) (hwr : ∀ c ∈ wr, s₁.heap.objs.size ≤ c) (O₁ : Own G A s₁.heap θ₁ X₁) (hlen : ds.length ≤ 1000000)
    (hD0 : DD ∈ X₀) (hDf : DD ∉ fp) (hDs : s₁.heap.objs.size ≤ DD) (hDz : DD ∉ X₁ ∧ DD < z) (hDe : DD ∉ envA cenv) (hL : s₁.heap.objs.size ≤ cenv.locals ∧ cenv.locals ∈ X₀)
    (hI : CompI G A cenv nsc θ₁ X₁ X₀ z DD St s₁ ds (fun r acc ρ μ => compT T C P K r acc ρ μ) k s₃) :
    wpAny G.M A (pyNext (.ref I)) (CTurn G.M A elt target ifs (.ref I) (.ref DD) cenv (CompE G A cenv nsc θ₁ X₁ X₀ z DD s₁ K) fun s => ∃ m, m < k ∧ CompI G A cenv nsc θ₁ X₁ X₀ z DD St s₁ ds (fun r acc ρ μ => compT T C P K r acc ρ μ) m s) (fun _ _ => False) s₃ := by
  obtain ⟨i, θ₃, X₃, ρ₃, μ₃, ys, acc, n, hi, rfl, e₃, w, hD₃, Ry, hyl, q, r₃⟩ := hI
  have Dw : DD ∉ wr := fun q => hDf (Wk.sub _ q)
  have nW : ∀ {F : List Addr} {c : Addr}, c ∈ ([] : List Addr) → c ∈ F := fun q => nomatch q
  refine w.turn Wk ap hwX hi (fun k R => (R.ext O₁ e₃).kp k (fun c hc => w.hX c (hwX c hc)) (fun _ => nW) (fun _ _ e => e) fun _ q => .inl q) (fun v s' h => h) (fun v h' tk hi w' k R => ?_) fun h' tk hi S k => ?_
  · rw [List.drop_eq_getElem_cons hi] at q
    have R₄ : Reps G h' θ₃ X₃ ys acc := Ry.kp k (fun c hc => w.hX c (hwX c hc)) (fun _ => nW) (fun _ _ e => e) fun _ q => .inl q
    have hD₄ := k.get hD₃ Dw (fun q => nomatch q)
    refine wpAny_mono (ht A cenv θ₃ X₃ { s₃ with heap := h', toks := tk } ρ₃ μ₃ v ds[i] _ hA he w'.S R q) (fun _ s₅ h₅ => ?_) fun _ _ f => f
    obtain ⟨ρ₅, k₅, S₅, q₅, r₅⟩ := h₅
    have k₅ : Kp [cenv.locals] [] h' s₅.heap := k₅
    have w₅ := w'.step Wk ap (KL.ok.ext (A := A) (X := X₃) (θ := θ₃) k₅) S₅
    have hD₅ := k₅.get hD₄ (fun q => hDe (List.mem_singleton.mp q ▸ .head _)) (fun q => nomatch q)
    have R₅ : Reps G s₅.heap θ₃ X₃ ys acc := R₄.kp k₅ (fun c hc => List.mem_singleton.mp hc ▸ w.hX _ hL.2) (fun _ => nW) (fun _ _ e => e) fun _ q => .inl q
    have e₅ : Ext G A θ₁ X₁ s₁.heap θ₃ X₃ s₅.heap := (e₃.wrt k hwr).wrt k₅ fun c hc => List.mem_singleton.mp hc ▸ hL.1
    refine wpAny_mono (hc A cenv θ₃ X₃ s₅ ρ₅ μ₃ _ _ hA he S₅ q₅) (fun ok s₆ h₆ => ?_) fun _ _ q => by obtain ⟨_, _, _, _, _, _, _, _, _, f, _⟩ := q; exact f
    obtain ⟨θ₆, X₆, μ₆, e₆, S₆, q₆, r₆⟩ := h₆
    have w₆ := w₅.step Wk ap e₆.toS S₆
    have a₅ := O₁.apart hDz w₅.hθ
    have hD₆ := e₆.kp.get hD₅ (fun q => (List.mem_append.mp q).elim a₅.1 a₅.2.1) a₅.2.2
    have R₆ := R₅.ext S₅.own e₆
    have r₆' : Rest s₁ s₆ := ((r₃.trans .mk).trans r₅).trans r₆
    have hm : ds.length + 1 - (i + 1) < ds.length + 1 - i := by omega
    cases ok with
    | false => exact ⟨_, hm, i + 1, θ₆, X₆, ρ₅, μ₆, ys, acc, n, hi, rfl, e₅.trans e₆, w₆, hD₆, R₆, Nat.le_succ_of_le hyl, q₆, r₆'⟩
    | true =>
      refine wpAny_mono (hp A cenv θ₆ X₆ s₆ ρ₅ μ₆ _ _ hA he S₆ q₆) (fun y s₇ h₇ => ?_) fun _ _ q => by obtain ⟨_, _, _, _, _, _, _, _, _, f, _⟩ := q; exact f
      obtain ⟨θ₇, X₇, d₇, μ₇, e₇, S₇, R₇, q₇, r₇⟩ := h₇
      have w₇ := w₆.step Wk ap e₇.toS S₇
      have a₆ := O₁.apart hDz w₆.hθ
      have a₇ := O₁.apart hDz w₇.hθ
      have hD₇ := e₇.kp.get hD₆ (fun q => (List.mem_append.mp q).elim a₆.1 a₆.2.1) a₆.2.2
      refine append_at hD₇ (fun h₈ sb hD₈ => ?_) (by rw [List.size_toArray, sizeLine_eq]; omega)
      have k₈ : Kp [DD] [] s₇.heap h₈ := .sameBut sb (.head _)
      have DX := w₇.hX _ hD0
      rw [push_list] at hD₈
      exact ⟨_, hm, i + 1, θ₇, X₇, ρ₅, μ₇, ys ++ [y], acc ++ [d₇], n + 1, hi, rfl, ((e₅.trans e₆).trans e₇).wrt k₈ fun c hc => List.mem_singleton.mp hc ▸ hDs,
        ⟨w₇.hθ, w₇.hX, Nat.le_trans w₇.hz k₈.1, S₇.move (k₈.mono (fun _ q => .inl q) fun _ q => nomatch q) (fun c hc => List.mem_singleton.mp hc ▸ ⟨DX, a₇.1, a₇.2.1, a₇.2.2, hDe⟩) (.same S₇.own k₈.1), Wk.frame _ _ _ w₇.st fun c hc o g => k₈.get g (fun q => hDf (List.mem_singleton.mp q ▸ hc)) fun q => nomatch q⟩, hD₈,
        ((R₆.ext S₆.own e₇).append (Reps.cons R₇ Reps.nil)).kp k₈ (fun c hc => List.mem_singleton.mp hc ▸ DX) (fun _ => nW) (fun _ _ e => e) (fun _ q => .inl q), List.length_append ▸ Nat.succ_le_succ hyl, q₇, (r₆'.trans r₇).trans .mkH⟩
  · rw [hi, List.drop_length] at q
    exact ⟨θ₃, X₃, ρ₃, μ₃, ys, acc, n, e₃.wrt k hwr, S, w.hθ, w.hX, k.get hD₃ Dw (fun q => nomatch q), Ry.kp k (fun c hc => w.hX c (hwX c hc)) (fun _ => nW) (fun _ _ e => e) fun _ q => .inl q, q, r₃.trans .mk⟩

/-- behind the loop: the inner block is left -/
inductive CompL (G : Gr) (A : Around) (env : Env) (ns : List Str) (ρ : List (Option D)) (θ X : List Addr) (s : Shared) (Q : D → List MO → Prop) (DD CC : Addr) (s' : Shared) : Prop
  | mk (θ' X' acc μ' m) : Ext G A θ X s.heap θ' X' s'.heap → Stt G A env ns θ' X' s'.heap ρ μ' → (CC ∈ X' ∧ CC ∉ θ' ∧ CC ∉ G.tA ∧ CC ∉ FL A ∧ CC ∉ envA env) → s.heap.objs.size ≤ CC → Rep G s'.heap θ' X' (.ref DD) (.list acc) → s'.heap.Ns CC m → Q (.list acc) μ' → Rest s s' → CompL G A env ns ρ θ X s Q DD CC s'
theorem comp_core {elt target iter : Expr} {ifs : List Expr} {scope : Scope} {pos : Pos} {capt : List (Option Nat)} {I : PI} {T : PG} {C : PT} {P : PE} (hi : IT G b fs ns target iter I) (ht : TL G b (cFs fs scope) nsc target T) (hc : CT G b (cFs fs scope) nsc ifs C)
    (hp : EV G b (cFs fs scope) nsc elt P) (hs : ∀ env v, foldedSetIterable iter env v = pure v) (ok : CompOk fs ns nsc scope capt)
    {A : Around} {env : Env} {θ X : List Addr} {s : Shared} {ρ : List (Option D)} {μ : List MO} {Q : D → List MO → Prop} {Ex : Exn → List MO → Prop} {cpos : Pos} {use : Option (Value → Sem Unit)} {Qc : Value → Shared → Prop} {Ec : Value → Shared → Prop}
    (hA : AOk A b) (he : fs.ok env) (S : Stt G A env ns θ X s.heap ρ μ) (p : tComp capt I T C P ρ μ Q Ex) (hE : ∀ v s', PostX G A env ns ρ θ X s Ex v s' → Ec v s')
    (fin : ∀ DD CC s', CompL G A env ns ρ θ X s Q DD CC s' → compPost G.M A Ec use Qc (.ref DD) CC (.ok .next) s') :
    wpAny G.M A (comprehension (.ListComp elt [⟨target, iter, ifs, 0⟩] scope pos) scope env cpos (newList []) false (eval iter env) use) Qc Ec s := by
  have hfr : ∀ n, (n, NameKind.free) ∈ scope.names → ∃ c, env.cells.lookup n = some c := fun n hn => he.2.2.2.2 n (ok.free n hn)
  refine wpAny_comprehension_free (use := use) rfl (hs env) (closure_pure hfr) ok.kind ok.loc (wpAny_mono (hi A env θ X s ρ μ _ Ex hA he S p) (fun v s₀ h₁ => ?_) fun v s' q => hE v s' q)
  obtain ⟨s₁, θ₁, X₁, ds, μ₁, e₁, S₁, iok, q₁, r₁⟩ := h₁
  obtain ⟨hlen, q₁⟩ := guard.le q₁
  refine iok _ _ fun I s₂ fp wr St Wk st0 k12 r12 hwr hfp => ?_
  refine wpAny_newObj_type (wpAny_newFunctionEnv ok.cell (fun y hy => nomatch hy) (fun h₄ hns₄ hsb₄ => ?_) ok.kind)
  dsimp only at hns₄ hsb₄ ⊢
  generalize hH2 : s₂.heap.push { cls := .type "list", dict := none, data := .seq ([] : List Value).toArray } = H2 at hns₄ hsb₄ ⊢
  have hC : H2.objs.size = s₂.heap.objs.size + 1 := by rw [← hH2, Heap.size_push]
  have h2D : H2.get? s₂.heap.objs.size = some (listOf (#[] : Array Value) 0) := hH2 ▸ Heap.get?_push_size _ rfl
  have h2o : ∀ c o, s₂.heap.get? c = some o → H2.get? c = some o := fun c o e => hH2 ▸ Heap.get?_push_of_some _ e
  generalize hDD : s₂.heap.objs.size = DD at *
  rw [hC] at hns₄ hsb₄ ⊢
  have h4z : h₄.objs.size = DD + 2 := by rw [hsb₄.1, Heap.size_push, hC]
  have keep : ∀ c o, H2.get? c = some o → h₄.get? c = some o := fun c o e => hsb₄.extBut c o (fun q => Nat.lt_irrefl _ (hC ▸ q ▸ Heap.lt_size e)) (Heap.get?_push_of_some _ e)
  have k14 : Kp [] [] s₁.heap h₄ := k12.trans (kp_keep (fun c o e => keep c o (h2o c o e)) (by rw [h4z, hDD]; exact Nat.le_add_right _ _))
  have s1D : s₁.heap.objs.size ≤ DD := hDD ▸ k12.1
  have s1C := Nat.le_succ_of_le s1D
  have fo := walk_apart (s₂ := s₂) S₁ k12.1 (fun a ha => ⟨(hwr a ha).1, hDD ▸ (hwr a ha).2⟩) hfp
  have gr4 : Grow G s₁.heap X₁ h₄ ((DD + 1) :: DD :: (wr ++ X₁)) := by
    have ca : ∀ {p : Addr → Prop}, p (DD + 1) → p DD → (∀ c ∈ wr, p c) → (∀ c ∈ X₁, p c) → ∀ c ∈ (DD + 1) :: DD :: (wr ++ X₁), p c := fun h1 h2 h3 h4 c q => (List.mem_cons.mp q).elim (fun e => e ▸ h1) fun q => (List.mem_cons.mp q).elim (fun e => e ▸ h2) fun q => (List.mem_append.mp q).elim (h3 c) (h4 c)
    exact ⟨fun c q => .tail _ (.tail _ (List.mem_append_right _ q)), ca (.inr s1C) (.inr s1D) (fun c q => .inr (hwr c q).1) fun _ => .inl,
      ca (h4z ▸ Nat.lt_succ_self _) (h4z ▸ Nat.lt_succ_of_lt (Nat.lt_succ_self _)) (fun c q => h4z ▸ Nat.lt_succ_of_lt (Nat.lt_succ_of_lt (hwr c q).2)) (fun c q => Nat.lt_of_lt_of_le (S₁.own.lt c q) k14.1),
      ca (base_none S₁.inv s1C) (base_none S₁.inv s1D) (fun c q => base_none S₁.inv (hwr c q).1) S₁.own.new⟩
  have CX : DD + 1 ∉ X₁ := fun q => absurd (S₁.own.lt _ q) (Nat.not_lt.mpr s1C)
  have DX : DD ∉ X₁ := fun q => absurd (S₁.own.lt _ q) (Nat.not_lt.mpr s1D)
  have enC : ∀ {a : Addr}, a ∉ X₁ → a ≠ DD + 1 → a ∉ envA (cEnv scope env (DD + 1)) := fun ha hne q => (cl_env ok he _ q).elim hne fun q => ha (S₁.eo.inX _ q)
  have S₄ := comp_enter ok he S₁ (S₁.move (W := []) (k14.mono (fun _ q => nomatch q) fun _ q => nomatch q) (fun _ q => nomatch q) gr4) (.head _) CX hns₄
  show codeAny G.M A (.compStart (elt.ListComp [⟨target, iter, ifs, 0⟩] scope pos) 0 (.ref I) (.ref DD) (cEnv scope env (DD + 1))) (compPost G.M A Ec use Qc (.ref DD) (DD + 1)) _
  have st4 : St 0 h₄ := Wk.frame _ _ _ st0 fun c hc o g => keep c o (h2o c o g)
  have fz : ∀ c ∈ fp, c < DD := fun c hc => hDD ▸ (fo c hc).2
  have loop : codeAny G.M A (.compLoop (elt.ListComp [⟨target, iter, ifs, 0⟩] scope pos) 0 (.ref I) (.ref DD) (cEnv scope env (DD + 1))) (compPost G.M A Ec use Qc (.ref DD) (DD + 1)) { s₂ with heap := h₄ } := by
    refine compLoop_any (CompI G A (cEnv scope env (DD + 1)) nsc θ₁ X₁ ((DD + 1) :: DD :: (wr ++ X₁)) (DD + 2) DD St s₁ ds fun r acc ρ μ => compT T C P (fun acc μ'' => Q (.list acc) μ'') r acc ρ μ) (fun k s₃ hI => ?_) (ds.length + 1)
      ⟨0, θ₁, _, _, μ₁, [], [], 0, Nat.zero_le _, rfl, .of_grow (k14.mono (fun _ q => nomatch q) fun _ q => nomatch q) gr4, ⟨fun _ q => .inl q, fun _ q => q, Nat.le_of_eq h4z.symm, S₄, st4⟩, keep _ _ h2D, Reps.nil, Nat.le_refl _, q₁, r12.trans .mkH⟩
    refine wpAny_mono (comp_turn ht hc hp hA (cFs_ok ok he) Wk (fun hθ c hc => ⟨enC (fo c hc).1 (Nat.ne_of_lt (Nat.lt_succ_of_lt (fz c hc))), S₁.own.apart ⟨(fo c hc).1, Nat.lt_succ_of_lt (Nat.lt_succ_of_lt (fz c hc))⟩ hθ⟩) (fun c q => .tail _ (.tail _ (List.mem_append_left _ q))) (fun c q => (hwr c q).1) S₁.own hlen
      (.tail _ (.head _)) (fun q => Nat.lt_irrefl _ (fz _ q)) s1D ⟨DX, Nat.lt_succ_of_lt (Nat.lt_succ_self _)⟩ (enC DX (Nat.ne_of_lt (Nat.lt_succ_self _))) ⟨s1C, .head _⟩ hI) (fun r s₄ h => ?_) fun _ _ f => f
    cases r with
    | some v => exact h
    | none =>
      obtain ⟨θ₃, X₃, ρ₃, μ₃, ys, acc, n, e₄, S₄', hθ, hX, hD₄, Ry, q, rr⟩ := (h : CompE ..)
      obtain ⟨m, hm⟩ := S₄'.eo.ns
      have So : Stt G A env ns θ₃ X₃ s₄.heap ρ μ₃ := S₁.back e₄ S₄'
      have aD := S₁.own.apart ⟨DX, Nat.lt_succ_of_lt (Nat.lt_succ_self _)⟩ hθ
      have aC := S₁.own.apart ⟨CX, Nat.lt_succ_self _⟩ hθ
      have fsub : ∀ a ∈ X₃.filter (fun a => decide (a ≠ DD)), a ∈ X₃ := fun a ha => (List.mem_filter.mp ha).1
      have fin' : ∀ {a}, a ∈ X₃ → a ≠ DD → a ∈ X₃.filter (fun a => decide (a ≠ DD)) := fun ha hne => List.mem_filter.mpr ⟨ha, decide_eq_true hne⟩
      refine fin DD (DD + 1) s₄ ⟨θ₃, X₃.filter (fun a => decide (a ≠ DD)), acc, μ₃, m, e₁.trans ⟨e₄.kp, e₄.new, fun a ha => fin' (e₄.sup a ha) (fun q => DX (q ▸ ha)), fun a ha => e₄.sub a (fsub a ha)⟩, So.shrink fsub (fun a ha => ?_),
        ⟨fin' (hX _ (.head _)) (Nat.succ_ne_self _), aC.1, aC.2.1, aC.2.2, fun q => CX (S₁.eo.inX _ q)⟩, Nat.le_trans e₁.kp.1 s1C, .list hD₄ (fun q => absurd rfl (of_decide_eq_true (List.mem_filter.mp q).2)) (Ry.wk fsub), hm, q, r₁.trans rr⟩
      rcases ha with ha | ha | ha | ha
      · exact fin' (So.own.inX a (.inl ha)) fun q => aD.1 (q ▸ ha)
      · exact fin' (So.own.inX a (.inr (.inl ha))) fun q => aD.2.1 (q ▸ ha)
      · exact fin' (So.own.inX a (.inr (.inr ha))) fun q => aD.2.2 (q ▸ ha)
      · exact fin' (So.eo.inX a ha) fun q => DX (q ▸ S₁.eo.inX a ha)
  exact codeAny_compStart_list loop (Wk.self 0 _ _ _ st4 loop)

/-- the inner block's scope is given back -/
theorem comp_free {CC : Addr} (a : CC ∈ X ∧ CC ∉ θ ∧ CC ∉ G.tA ∧ CC ∉ FL A ∧ CC ∉ envA env) (S : Stt G A env ns θ X h ρ μ) (sb : Heap.SameBut CC h h') : Kp [CC] [] h h' ∧ Stt G A env ns θ X h' ρ μ := by
  have k : Kp [CC] [] h h' := .sameBut sb (.head _)
  exact ⟨k, S.move (k.mono (fun _ q => .inl q) fun _ q => nomatch q) (fun c hc => List.mem_singleton.mp hc ▸ a) (.same S.own k.1)⟩
theorem EV_comp {elt target iter : Expr} {ifs : List Expr} {scope : Scope} {pos : Pos} {capt : List (Option Nat)} {I : PI} {T : PG} {C : PT} {P : PE} (hi : IT G b fs ns target iter I) (ht : TL G b (cFs fs scope) nsc target T) (hc : CT G b (cFs fs scope) nsc ifs C)
    (hp : EV G b (cFs fs scope) nsc elt P) (hs : ∀ env v, foldedSetIterable iter env v = pure v) (ok : CompOk fs ns nsc scope capt) :
    EV G b fs ns (.ListComp elt [⟨target, iter, ifs, 0⟩] scope pos) (tComp capt I T C P) := fun A env θ X s ρ μ Q Ex hA he S p => by
  rw [eval_ListComp]
  refine comp_core hi ht hc hp hs ok hA he S p (fun _ _ q => q) fun DD CC s' hL => ?_
  obtain ⟨θ₃, X₅, acc, μ₃, m, e, S', c, cz, R, hm, q, r⟩ := hL
  refine ⟨m, hm, fun h'' sb => ?_⟩
  obtain ⟨k, S''⟩ := comp_free c S' sb
  exact ⟨θ₃, X₅, .list acc, μ₃, e.wrt k fun a ha => List.mem_singleton.mp ha ▸ cz, S'', R.kp k (fun a ha => List.mem_singleton.mp ha ▸ c.1) (fun _ q => nomatch q) (fun _ _ e => e) (fun _ q => .inl q), q, r.trans .mkH⟩

theorem SV_comp {i : Nat} {y : Str} {py spos : Pos} {elt target iter : Expr} {ifs : List Expr} {scope : Scope} {pos : Pos} {capt : List (Option Nat)} {I : PI} {T : PG} {C : PT} {P : PE} (hi : IT G b fs ns target iter I) (ht : TL G b (cFs fs scope) nsc target T) (hc : CT G b (cFs fs scope) nsc ifs C)
    (hp : EV G b (cFs fs scope) nsc elt P) (hs : ∀ env v, foldedSetIterable iter env v = pure v) (ok : CompOk fs ns nsc scope capt) (hst : StoreOk G fs ns i y) (hsw : ∀ env, fs.ok env → swapsWith (.ListComp elt [⟨target, iter, ifs, 0⟩] scope pos) (some (.Name y py)) spos.line env = pure true) :
    SV G b fs ns (.Assign [.Name y py] (.ListComp elt [⟨target, iter, ifs, 0⟩] scope pos) spos) (wSet i (tComp capt I T C P)) := fun A env θ X s ρ μ Nx Rt Ex hA he hF S p => by
  rw [exec_Assign_Name_used _ _ _ _ (hsw env he)]
  refine wpAny_bind (wpAny_standAt (wpAny_bind ?_))
  show wpAny _ A (do let _ ← comprehension (.ListComp elt [⟨target, iter, ifs, 0⟩] scope pos) scope env _ (newList []) false (eval iter env) (some (assign (.Name y py) env))) _ _ s
  refine wpAny_bind (wpAny_mono (comp_core (use := some (assign (.Name y py) env)) (Qc := fun _ s' => PostS G A env ns θ X s Nx Rt .next s') (Ec := PostSX G A env ns θ X s Ex) hi ht hc hp hs ok hA he S p (fun _ _ q => q.toS) fun DD CC s' hL => ?_) (fun _ s' hq => wpAny_pure (wpAny_pure hq)) fun _ _ e => e)
  obtain ⟨θ₃, X₅, acc, μ₃, m, e, S', c, cz, R, hm, q, r⟩ := hL
  show wpAny _ A (assign (.Name y py) env (.ref DD)) _ _ _
  refine wpAny_assign_Name (hst he S' R fun s₂ e₂ S₂ r₂ => ?_)
  refine ⟨m, e₂.kp.ns hm (fun q => (List.mem_append.mp q).elim c.2.2.2.2 fun q => (List.mem_append.mp q).elim c.2.1 c.2.2.1), fun h'' sb => ?_⟩
  obtain ⟨k, S''⟩ := comp_free c S₂ sb
  exact ⟨θ₃, X₅, _, μ₃, (e.toS.trans e₂).wrt k fun a ha => List.mem_singleton.mp ha ▸ cz, S'', q, (r.trans r₂).trans .mkH⟩
end
end Mine
namespace Mine
open PySem PySem.W PySem.Calls PyProof.Rows

/-! ## an exception of one's own class is made -/
section
variable {prog : Program} {w : World} {A : Around} {K : Frag} {R : Result → Shared → Prop} {h : Heap} {g : Array GenState} {d : Drawn} {t : Nat} {os : OsState}
variable {nm q : Str} {C N fI : Addr} {bs bm : List Value} {hdct : Bool} {sn : List Str} {sub : List Value} {ab : Bool} {col : Option Bool} {dd : Option Addr} {k0 k1 k2 k3 k5 : Option Value}

abbrev excObj (C t : Addr) : Obj := { cls := .ref C, data := .fields #[.ref t, .none, .none, .none, .bool false, .none] }
structure ExcFacts (bm : List Value) : Prop where
  v : bm.contains (.type "ValueError") = true
  b : bm.contains (.type "BaseException") = true
  a : bm.contains (.type "AttributeError") = false
  n : bm.contains (.type "NameError") = false

theorem exc_new (F : ExcFacts bm) {rest : List Value} (hC : h.get? C = some (excClassObj nm q C N bs bm hdct sn sub ab col dd k0 k1 k2 k3 k5 "ValueError.__new__"))
    (hq : R (.ok (.ret (.ref (h.objs.size + 1)))) ⟨(h.push { cls := .type "tuple", data := .seq rest.toArray }).push (excObj C h.objs.size), g, d, t, os⟩) (hrest : rest.length ≤ sizeLine) :
    codeAny (model prog w) A (.call (.builtin "ValueError.__new__") ⟨.ref C :: rest, []⟩) R ⟨h, g, d, t, os⟩ := by
  have E := PySem.F.excBase_ValueError
  have hcont : (Value.ref C :: bm).contains (.type "ValueError") = true := by rw [List.contains_cons, F.v, Bool.or_true]
  have hcA : (Value.ref C :: bm).contains (.type "AttributeError") = false := by rw [List.contains_cons, F.a]; rfl
  have hcN : (Value.ref C :: bm).contains (.type "NameError") = false := by rw [List.contains_cons, F.n]; rfl
  refine codeAny_call_builtin_code (Code.quiet_builtin _ E.quiet) (wpAny_check_new_subU E F.v .base hC ?_)
  refine codeAny_builtinAt E.entry ?_
  unfold Builtin.«BaseException.__new__»
  refine PySem.wpAt_bind ?_
  show PySem.wpAt _ _ _ (stack >>= _) _ _ _
  refine PySem.wpAt_bind (PySem.wpAt_stack fun p below => PySem.wpAt_of_wpAny ?_)
  dsimp only
  rw [if_pos E.ends]
  refine wpAny_pure ?_
  refine PySem.wpAt_of_wpAny ?_
  rw [E.owner]
  repeat (first | with_reducible refine wpAny_madeHere_exc E.canon hC ?_ | with_reducible refine wpAny_loadPart_at hC ?_ | (with_reducible refine wpAny_isSubtype_exc hC ?_; first | rw [hcont] | rw [hcA] | rw [hcN]) | wp_step)
  show R _ _
  rw [Heap.size_push]
  exact hq

/-- the class called: the new object goes to its own __init__ -/
theorem exc_call (F : ExcFacts bm) (X : K.In h) {rest : List Value} (hK : K.lookup C = some (excClassObj nm q C N bs bm hdct sn sub ab col dd k0 k1 k2 k3 k5 "ValueError.__new__")) (hm : specialIn K (.ref C) "__call__" = some (some (.builtin "type.__call__"))) (ht : instIn K (.ref C) (.type "type") = some true)
    (hi : findIn K (.ref C) "__init__" = some (some (.ref fI))) (hf : typeIn K (.ref fI) = some (.type "function"))
    (hq : codeAny (model prog w) (A.under (.builtin "type.__call__" ⟨.ref C :: rest, []⟩)) (.call (.ref fI) ⟨.ref (h.objs.size + 1) :: rest, []⟩) (InitBack (h.objs.size + 1) R) ⟨(h.push { cls := .type "tuple", data := .seq rest.toArray }).push (excObj C h.objs.size), g, d, t, os⟩)
    (hrest : rest.length ≤ sizeLine) : codeAny (model prog w) A (.call (.ref C) ⟨rest, []⟩) R ⟨h, g, d, t, os⟩ := by
  have hC := X _ _ hK
  have call := looks_specialIn (M := model prog w) X hm
  have typ := looks_instIn (M := model prog w) X ht
  have init := looks_findIn (M := model prog w) X hi
  have made : Looks (model prog w) h (Bind.madeBy (.ref C)) (some "ValueError.__new__") := fun A Q E s k q => by
    obtain ⟨h', g', d', t', os'⟩ := s
    exact wpAny_madeBy_exc (k _ _ hC) q
  have mro : Looks (model prog w) h (mroOf (.ref C)) (.ref C :: bm) := fun A Q E s k q => by
    obtain ⟨h', g', d', t', os'⟩ := s
    exact wpAny_mroOf_exc (k _ _ hC) q
  have self : Looks (model prog w) h (isSubtype (.ref C) (.ref C)) true := fun A Q E s k q => by
    obtain ⟨h', g', d', t', os'⟩ := s
    refine wpAny_isSubtype_exc (k _ _ hC) ?_
    rw [show (Value.ref C :: bm).contains (.ref C) = true by simp]
    exact q
  refine codeAny_of_tree ?_
  show wpAny _ _ (callAny (.ref C) _) _ _ _
  refine nd_load hC ?_
  show wpAny _ _ (callAny.viaDunder (.ref C) _) _ _ _
  unfold callAny.viaDunder
  refine wpAny_bind (call.at ?_)
  dsimp only
  rw [tc_bind]
  refine wpAny_bind (wpAny_pure (wpAny_bind (wpAny_pure ?_)))
  refine wpAny_pure (a := Fin.again (.call (.builtin "type.__call__") ⟨.ref C :: rest, []⟩)) (And.intro rfl ?_)
  refine codeAny_call_builtin_at (Code.quiet_builtin _ (by decide +kernel)) entry_typeCall (check_slot tc_kind tc_split typ (tc_args _ _ _) ?_)
  unfold Builtin.«type.__call__»
  repeat (first | with_reducible refine wpAny_call ?_ | lk)
  refine exc_new F hC ?_ hrest
  have k : ∀ b o, h.get? b = some o → ((h.push { cls := .type "tuple", data := .seq rest.toArray }).push (excObj C h.objs.size)).get? b = some o := fun b o e => Heap.get?_push_of_some _ (Heap.get?_push_of_some _ e)
  have hx : ((h.push { cls := .type "tuple", data := .seq rest.toArray }).push (excObj C h.objs.size)).get? (h.objs.size + 1) = some (excObj C h.objs.size) := by heap_get
  have t1 : Looks (model prog w) ((h.push { cls := .type "tuple", data := .seq rest.toArray }).push (excObj C h.objs.size)) (typeOf (.ref (h.objs.size + 1))) (.ref C) := (Looks.ld hx).andThen .now
  have s1 := self.keeps k
  have i1 := init.keeps k
  have b1 := (bind_fn (M := model prog w) X (.ref (h.objs.size + 1)) hf).keeps k
  dsimp only
  unfold isInstance callSpecial? specialOf
  repeat (first | with_reducible refine wpAny_call ?_ | lk)
  refine codeAny_mono hq fun r s' z => ?_
  rcases r with e | (v | _ | _ | _) <;> first | exact z | exact z.elim | skip
  obtain ⟨rfl, z⟩ := z
  exact wpAny_pure (wpAny_pure z)
end
end Mine
namespace Mine
open PySem PySem.W PySem.Calls PyProof.Rows Builtin Builtin.ObjectAttr

section
variable {prog : Program} {w : World} {A : Around} {K : Frag} {E : Value → Shared → Prop} {s : Shared} {e C t : Addr}

theorem method_typeK {T : String} {name : Str} {v : Value} {pl : Sem Bool} {Q : Value × List Value → Shared → Prop} (X : K.In s.heap) (ht : typeOf (.type T) = pure (.type "type")) (hs : Manifest.isStub T = false)
    (e : findCls K (.type T) (.type "type") name = some (.val v)) (hh : handedIn v = true) (h : Q (v, []) { s with toks := s.toks + 1 }) : wpAny (model prog w) A (getMethod (.type T) name pl) Q E s := by
  have hstub : opaqueClassAbove (.type T) = pure none := by unfold opaqueClassAbove; dsimp only; rw [hs]; rfl
  have L0 : Looks (model prog w) s.heap (typeOf (.type T)) (.type "type") := Looks.of_pure ht
  have hg : findIn K (.type "type") "__getattribute__" = some (some (.builtin "type.__getattribute__")) := type_tga
  unfold getMethod specialOf
  refine wpAny_bind (wpAny_bind (L0.here ((looks_findIn X hg).here ?_)))
  dsimp only
  rw [if_pos canon_tga]
  refine wpAny_bind (wpAny_mono (Q := fun v => Q (v, [])) (E := E) ?_ (fun _ _ z => wpAny_pure z) fun _ _ z => z)
  have LO : Looks (model prog w) s.heap (opaqueClassAbove (.type T)) none := Looks.of_pure hstub
  refine cls_open X LO L0 hg (looks_hook X (r := none) (by rfl)) (by show subIn K _ _ = _; rfl) e
    (wpAny_pure (by show wpAny _ _ (handedOut v) _ _ _; rw [handedOut_of hh]; exact wpAny_pure h))

/-- ValueError.__init__(e, x) -/
theorem vinit {nm q : Str} {N : Addr} {bs bm : List Value} {hdct : Bool} {sn : List Str} {sub : List Value} {ab : Bool} {col : Option Bool} {dd : Option Addr} {k0 k1 k2 k3 k5 : Option Value} (F' : ExcFacts bm)
    (hC : s.heap.get? C = some (excClassObj nm q C N bs bm hdct sn sub ab col dd k0 k1 k2 k3 k5 "ValueError.__new__")) {x : Value} {od : Option Addr}
    (he : s.heap.get? e = some ({ cls := .ref C, dict := od, data := .fields #[.ref t, .none, .none, .none, .bool false, .none] } : Obj)) {Q : Value → Shared → Prop}
    (h : ∀ h', Kp [e] [] s.heap h' → h'.get? e = some ({ cls := .ref C, dict := od, data := .fields #[.ref s.heap.objs.size, .none, .none, .none, .bool false, .none] } : Obj) → Q .none { s with heap := h' }) :
    wpAny (model prog w) A (call (.builtin "ValueError.__init__") [.ref e, x]) Q E s := by
  have F := PySem.F.excBase_ValueError
  obtain ⟨hh, g, d, tk, os⟩ := s
  dsimp only at hC he h
  have hcB : (Value.ref C :: bm).contains (.type "ValueError") = true := by rw [List.contains_cons, F'.v, Bool.or_true]
  refine wpAny_call (codeAny_call_builtin F.init.plain F.initEntry ?_)
  have hshort := F.noStar
  unfold checkBuiltinCall
  rw [F.initKind, F.initSplit, F.initRow]
  repeat (first | (with_reducible refine wpAny_loadPart_at he ?_; dsimp only) | with_reducible refine wpAny_loadPart_at hC ?_ | (with_reducible refine wpAny_isSubtype_exc hC ?_; rw [hcB]) | wp_step)
  have he₁ := Heap.get?_push_of_some (h := hh) { cls := .type "tuple", data := .seq [x].toArray } he
  have k1 : Kp [e] [] hh (hh.push { cls := .type "tuple", data := .seq [x].toArray }) := .push _
  exact h _ (k1.trans (.update (.head _))) (Heap.get?_update_self _ he₁ rfl)

/-- e.reason = x, e an exception without fields of its own yet -/
theorem refuse_val (self : Value) : refuseLoop self "__setattr__" [.type "ValueError", .type "Exception", .type "BaseException", .type "object"] = pure () := by kernel_rfl
theorem excset {name : Str} {v : Value} {t : Addr} {cd : ClassData} {Q : Unit → Shared → Prop} (X : K.In s.heap) (he : s.heap.get? e = some ({ cls := .ref C, data := .fields #[.ref t, .none, .none, .none, .bool false, .none] } : Obj))
    (hs : findIn K (.ref C) "__setattr__" = some (some (.builtin "object.__setattr__"))) (hc : clsIn K C = some cd) (hm : ∃ a b, cd.mro = [.ref a, .ref b, .type "ValueError", .type "Exception", .type "BaseException", .type "object"]) (hd : cd.hasDict = true) (hn : findIn K (.ref C) name = some none)
    (hsub : mroIn K C (.type "object") = some true)
    (h : ∀ h' tk dx, Kp [e] [] s.heap h' → h'.get? e = some ({ cls := .ref C, dict := some dx, data := .fields #[.ref t, .none, .none, .none, .bool false, .none] } : Obj) → Q () { s with heap := h', toks := tk }) :
    wpAny (model prog w) A (setAttr (.ref e) name v) Q E s := by
  have I : InstAt s.heap e ({ cls := .ref C, data := .fields #[.ref t, .none, .none, .none, .bool false, .none] } : Obj) C none := ⟨he, rfl, rfl, trivial⟩
  refine set_plain X I hs ?_
  have SF := PySem.F.store_object
  have sub : Looks (model prog w) s.heap (isInstance (.ref e) (.type "object")) true := I.type.andThen (looks_mroIn X hsub)
  refine codeAny_call_builtin SF.slot.plain SF.entry (@check_slot (model prog w) _ _ { s with toks := s.toks + 1 } "object.__setattr__" "object" "__setattr__" (.ref e) [.str name s.toks, v] [] _ SF.kind SF.split sub (SF.args (.ref e) (.str name s.toks) v) ?_)
  have hml : Looks (model prog w) s.heap (mroOf (.ref C)) cd.mro := (looks_clsIn X hc).andThen .now
  obtain ⟨a, b, hmm⟩ := hm
  have ty : Looks (model prog w) s.heap (typeOf (.ref e)) (.ref C) := I.type
  rw [osa_eq, refuse_eq]
  refine wpAny_bind (wpAny_bind (Looks.here (s := { s with toks := s.toks + 1 }) ty (wpAny_bind (Looks.here (s := { s with toks := s.toks + 1 }) hml ?_))))
  rw [hmm, refuseLoop_ref, refuseLoop_ref, refuse_val]
  refine wpAny_pure (wpAny_bind (Looks.here (s := { s with toks := s.toks + 1 }) ty (wpAny_bind (Looks.here (s := { s with toks := s.toks + 1 }) (looks_findIn X hn) (wpAny_bind (wpAny_pure ?_))))))
  dsimp only
  unfold storeInOwnDict
  refine wpAny_bind (wpAny_pure ?_)
  refine wpAny_bind ?_
  refine wpAny_bind (wpAny_loadPart he ?_)
  dsimp only
  refine wpAny_bind (Looks.here (s := { s with toks := s.toks + 1 }) (looks_clsIn X hc) ?_)
  rw [hd]
  refine wpAny_bind (wpAny_alloc ?_)
  have he₁ := Heap.get?_push_of_some { cls := .type "dict", data := .dict #[] } he
  refine wpAny_bind (wpAny_update he₁ ?_)
  have he₂ := Heap.get?_update_self (fun o : Obj => { cls := o.cls, dict := some s.heap.objs.size, data := o.data, slots := o.slots }) he₁ rfl
  refine wpAny_bind (wpAny_pure (wpAny_pure ?_))
  have hdx : ((s.heap.push { cls := .type "dict", data := .dict #[] }).update e (fun o : Obj => { cls := o.cls, dict := some s.heap.objs.size, data := o.data, slots := o.slots })).get? s.heap.objs.size = some { cls := .type "dict", data := .dict #[] } :=
    (Heap.get?_update_other _ _ (Nat.ne_of_lt (Heap.lt_size he))).trans (Heap.get?_push_size _ rfl)
  dsimp only
  generalize hH : (s.heap.push { cls := .type "dict", data := .dict #[] }).update e (fun o : Obj => { cls := o.cls, dict := some s.heap.objs.size, data := o.data, slots := o.slots }) = H at he₂ hdx ⊢
  have kH : Kp [e] [] s.heap H := by
    have k1 : Kp [e] [] s.heap (s.heap.push { cls := .type "dict", data := .dict #[] }) := .push _
    rw [← hH]; exact k1.trans (.update (.head _))
  unfold storeInDict
  refine wpAny_bind (wpAny_pure (wpAny_bind ?_))
  unfold nsSet
  refine wpAny_bind (wpAny_bind (wpAny_askSetting (wpAny_pure (wpAny_bind (wpAny_mkText (wpAny_bind (wpAny_loadPart hdx ?_)))))))
  dsimp only
  rw [aRefKeyMayBeTheName_at, show ((!(#[] : Array DictEntry).any (·.key.isStr name) && (#[] : Array DictEntry).any (·.refKey)) = false) by simp]
  have D' := Heap.get?_update_self (Obj.putName name (PyData.keyHash w.params name) (.str name (s.toks + 1)) v) hdx (by rw [show ({ cls := .type "dict", data := .dict #[] } : Obj) = dictOf [] 0 from rfl, putName_dict]; rfl)
  rw [show ({ cls := .type "dict", data := .dict #[] } : Obj) = dictOf [] 0 from rfl, putName_dict] at D'
  refine wpAny_updatePart hdx ?_
  refine wpAny_bind (wpAny_lookBehind D' (pastItsLine_dict (by rw [List.size_toArray, sizeLine_eq]; exact Nat.le_of_ble_eq_true rfl)) ?_)
  have hne : s.heap.objs.size ≠ e := Nat.ne_of_gt (Heap.lt_size he)
  refine wpAny_pure (h _ _ s.heap.objs.size ?_ ((Heap.get?_update_other _ _ hne).trans he₂))
  have k2 : Kp [s.heap.objs.size] [] H (H.update s.heap.objs.size (Obj.putName name (PyData.keyHash w.params name) (.str name (s.toks + 1)) v)) := .update (.head _)
  exact kH.trans' k2 (fun c hc => .inr (by rw [List.mem_singleton.mp hc]; exact Nat.le_refl _)) fun _ q => nomatch q
end
end Mine
namespace Mine
open PySem PySem.W PySem.Calls PyProof.Rows

def excBm (P : Addr) : List Value := [.ref P, .type "ValueError", .type "Exception", .type "BaseException", .type "object"]
theorem excBm_facts (P : Addr) : ExcFacts (excBm P) := ⟨rfl, rfl, rfl, rfl⟩
inductive ExcObj (K : Frag) (C P : Addr) : Prop
  | mk {nm q N bs sn sub ab col dd k0 k1 k2 k3 k5} : K.lookup C = some (excClassObj nm q C N bs (excBm P) true sn sub ab col dd k0 k1 k2 k3 k5 "ValueError.__new__") → ExcObj K C P
structure ExcK (K : Frag) (C fI : Addr) : Prop where
  obj : ∃ P, ExcObj K C P
  call : specialIn K (.ref C) "__call__" = some (some (.builtin "type.__call__"))
  inst : instIn K (.ref C) (.type "type") = some true
  init : findIn K (.ref C) "__init__" = some (some (.ref fI))
  fn : typeIn K (.ref fI) = some (.type "function")
  keep : keepIn K (.ref C) = true
  set : findIn K (.ref C) "__setattr__" = some (some (.builtin "object.__setattr__"))
  reason : findIn K (.ref C) "reason" = some none
  top : mroIn K C (.type "object") = some true

section
variable {G : Gr} {b : Nat} {fs : Fs} {ns : List Str} {A : Around} {env : Env} {θ X θ' X' θ'' X'' : List Addr} {h h' h'' hs : Heap} {ρ ρ' : List (Option D)} {μ μ' : List MO} {s s' : Shared} {W : List Addr}

/-- the text of the base class's __init__ -/
def pressBody (p1 p2 p3 p4 p5 p6 p7 p8 p9 p10 : Pos) : List Stmt :=
  [.Expr (.Call (.Attribute (.Name "ValueError" p1) "__init__" p2) [.Name "self" p3, .Name "reason" p4] [] p5) p6, .Assign [.Attribute (.Name "self" p7) "reason" p8] (.Name "reason" p9) p10]
inductive PressFn (G : Gr) (fI : Addr) : Prop
  | mk {name qual : Str} {params : Arguments} {p1 p2 p3 p4 p5 p6 p7 p8 p9 p10 : Pos} {scope : Scope} {dV kV doc pm cdv ct oc : Value} {an od : Option Addr} {osl : Array (Option Value)} :
    G.K.lookup fI = some ⟨oc, od, .func (fnOf name qual params (pressBody p1 p2 p3 p4 p5 p6 p7 p8 p9 p10) scope dV kV doc pm an cdv ct), osl⟩ → codeIn G.K cdv qual = true →
    (∀ (s : Shared) (a x : Value), G.K.In s.heap → BindsTo s (fnOf name qual params (pressBody p1 p2 p3 p4 p5 p6 p7 p8 p9 p10) scope dV kV doc pm an cdv ct) ⟨[a, x], []⟩ [(("self" : Str), a), (("reason" : Str), x)]) →
    scope.names = [(("self" : Str), NameKind.local), (("reason" : Str), NameKind.local), (("ValueError" : Str), NameKind.globalImplicit)] → scope.kind = .function → scope.isCoroutine = false → scope.isGenerator = false →
    (∀ env, ∃ pl, eval (.Call (.Attribute (.Name "ValueError" p1) "__init__" p2) [.Name "self" p3, .Name "reason" p4] [] p5) env = (do
      let ov ← eval (.Name "ValueError" p1) env
      standAt p2.atName
      let (f, first) ← holding [ov] (getMethod ov "__init__" pl)
      callWith p5 f first (backTo p5 (starEach [.Name "self" p3, .Name "reason" p4] env)) (backToKw p5 (keywordEach [] env)))) →
    (∀ env, swapsWith (.Call (.Attribute (.Name "ValueError" p1) "__init__" p2) [.Name "self" p3, .Name "reason" p4] [] p5) none p6.line env = pure false) → (∀ env, swapsWith (.Name "reason" p9) (some (.Attribute (.Name "self" p7) "reason" p8)) p10.line env = pure false) →
    nsIn G.K mainGlobals "ValueError" = some none → findCls G.K (.type "ValueError") (.type "type") "__init__" = some (.val (.builtin "ValueError.__init__")) → PressFn G fI
inductive PressEnd (hs : Heap) (e C : Addr) (h : Heap) : Prop
  | mk {oe vs} : Kp [e] [] hs h → h.get? e = some oe → oe.cls = .ref C → oe.data = .fields vs → vs[1]? = some .none → PressEnd hs e C h

theorem press_init (O : G.Ok) {C fI e t : Addr} {x : Value} (E : ExcK G.K C fI) (F : PressFn G fI) (hb : ∀ b o, G.h₀.get? b = some o → s.heap.get? b = some o) (hd : A.depth < recursionLimit) (heb : G.h₀.get? e = none) (he : s.heap.get? e = some (excObj C t)) :
    codeAny G.M A (.call (.ref fI) ⟨[.ref e, x], []⟩) (fun r s' => r = .ok (.ret .none) ∧ PressEnd s.heap e C s'.heap ∧ Rest s s') s := by
  obtain ⟨_, _, T⟩ := O.T
  have X' := O.X.keeps hb
  obtain @⟨name, qual, params, p1, p2, p3, p4, p5, p6, p7, p8, p9, p10, scope, dV, kV, doc, pm, cdv, ct, oc, an, od, osl, ho, hcd, hbind, hsn, hk, hco, hgen, hev, hsw, hsw2, hgl, hme⟩ := F
  obtain ⟨P, ⟨hC⟩⟩ := E.obj
  refine codeAny_call_function (fd := fnOf name qual params (pressBody p1 p2 p3 p4 p5 p6 p7 p8 p9 p10) scope dV kV doc pm an cdv ct) (body := pressBody p1 p2 p3 p4 p5 p6 p7 p8 p9 p10) hd (X' _ _ ho) rfl hco hgen rfl (codeRec_of X' hcd) ?_
  refine hbind s _ _ X' _ _ _ _ ?_
  refine wpAny_newFunctionEnv (fun y hy => ?_) (fun y hy => ?_) (fun h₁ hns hsb => ?_) hk
  · rw [hsn] at hy
    rcases List.mem_cons.mp hy with rfl | hy
    · decide
    · rcases List.mem_cons.mp hy with rfl | hy
      · decide
      · rw [List.mem_singleton.mp hy]; decide
  · rw [hsn]
    rcases List.mem_cons.mp hy with rfl | hy
    · rfl
    · rw [List.mem_singleton.mp hy]; rfl
  generalize hL : s.heap.objs.size = L at hns hsb
  have old : ∀ c o, s.heap.get? c = some o → h₁.get? c = some o := fun c o g => hsb.extBut c o (by rw [← hL]; exact Nat.ne_of_lt (Heap.lt_size g)) (Heap.get?_push_of_some _ g)
  have hz₁ : h₁.objs.size = L + 1 := by rw [hsb.1, Heap.size_push, hL]
  have k01 : Kp [] [] s.heap h₁ := kp_keep old (by rw [hz₁, hL]; exact Nat.le_succ _)
  refine ⟨T.nolimit.keeps fun c o g => old c o (hb c o g), codeAny_func ?_⟩
  generalize hen : newEnv _ L _ _ _ _ _ _ _ = en
  have e1 : en.scope = scope := by rw [← hen]; rfl
  have e2 : en.locals = L := by rw [← hen]; rfl
  have e3 : en.globals = mainGlobals := by rw [← hen]; rfl
  have e4 : en.builtins = builtinsNs := by rw [← hen]; rfl
  have hk' : en.scope.kind = .function := by rw [e1]; exact hk
  have ks : en.kindOf "self" = some .local := by unfold Env.kindOf; rw [e1, hsn]; rfl
  have kr : en.kindOf "reason" = some .local := by unfold Env.kindOf; rw [e1, hsn]; rfl
  have kv : en.kindOf "ValueError" = some .globalImplicit := by unfold Env.kindOf; rw [e1, hsn]; rfl
  refine wpAny_execs_cons (wpAny_Expr_any ?_ (by unfold interactive; rw [hk']; rfl) (hsw en))
  obtain ⟨pl, hev'⟩ := hev en
  rw [hev']
  have hb₁ : ∀ c o, G.h₀.get? c = some o → h₁.get? c = some o := fun c o g => old c o (hb c o g)
  refine wpAny_bind (Name_function_global hk' kv (loadGlobal_builtin (env := en) (by rw [e3]; exact T.g.keeps hb₁) (mg_none_of O.X T.g hgl) (by rw [e4]; exact T.b.keeps hb₁) ((T.builtins "ValueError" (by decide)).trans rfl) ?_) (by decide))
  refine wpAny_bind (wpAny_standAt (wpAny_bind (wpAny_holding (method_typeK (O.X.keeps hb₁) (by kernel_rfl) (by decide +kernel) hme rfl ?_))))
  refine callWith_any (G := G) (P := fun _ => True) rfl (fun h _ => keeper_plain rfl h) ?_
  show wpAny _ _ (spliced [(false, eval (.Name "self" p3) en), (false, eval (.Name "reason" p4) en)]) _ _ _
  refine spliced_cons (wpAny_Name (wpAny_loadName_local hk' ks (by rw [e2]; exact hns) rfl ?_) (by decide))
  refine spliced_cons (wpAny_Name (wpAny_loadName_local hk' kr (by rw [e2]; exact hns) rfl ?_) (by decide))
  refine spliced_nil ⟨trivial, ?_⟩
  refine vinit (excBm_facts P) (old _ _ (X' _ _ hC)) (old _ _ he) fun h₂ k2 he₂ => ?_
  dsimp only at k2 he₂
  have hLe : e ≠ L := by rw [← hL]; exact Nat.ne_of_lt (Heap.lt_size he)
  have hns₂ : h₂.Ns L (fun x_1 => [(("self" : Str), Value.ref e), (("reason" : Str), x)].reverse.lookup x_1) := k2.ns hns (fun q => hLe (List.mem_singleton.mp q).symm)
  refine wpAny_execs_cons (plainObj_wpAny_Assign_Attribute (wpAny_Name (wpAny_loadName_local hk' kr (by rw [e2]; exact hns₂) rfl ?_) (by decide)) (hsw2 en))
  refine wpAny_Name (wpAny_loadName_local hk' ks (by rw [e2]; exact hns₂) rfl ?_) (by decide)
  have hb₂ : ∀ c o, G.h₀.get? c = some o → h₂.get? c = some o := fun c o g => k2.get (hb₁ c o g) (fun q => by rw [List.mem_singleton.mp q, heb] at g; cases g) fun q => nomatch q
  refine excset (K := G.K) (cd := _) (O.X.keeps hb₂) he₂ E.set (by unfold clsIn; rw [hC]) ⟨C, P, rfl⟩ rfl E.reason E.top fun h₃ tk dx k3 he₃ => ?_
  exact wpAny_execs_nil ⟨rfl, .mk (k01.mono (fun _ q => nomatch q) (fun _ q => nomatch q) |>.trans (k2.trans k3)) he₃ rfl rfl rfl, rfl⟩
end
end Mine
namespace Mine
open PySem PySem.W PySem.Calls PyProof.Rows

section
variable {G : Gr} {b : Nat} {fs : Fs} {ns : List Str} {A : Around} {env : Env} {θ X θ' X' θ'' X'' : List Addr} {h h' h'' hs : Heap} {ρ ρ' : List (Option D)} {μ μ' : List MO} {s s' : Shared} {W : List Addr}

/-- an exception made, in the air -/
inductive Made (G : Gr) (C : Addr) (E : Value → Shared → Prop) (s : Shared) : Value → Prop
  | mk {e oe vs} : G.K.In s.heap → s.heap.get? e = some oe → oe.cls = .ref C → oe.data = .fields vs → vs[1]? = some .none → E (.ref e) s → Made G C E s (.ref e)
theorem raise_made' {C fI : Addr} {E : Value → Shared → Prop} {Q : Flow → Shared → Prop} {x : Sem Value} (K : ExcK G.K C fI) (hh : A.handled = none)
    (h : wpAny G.M A x (fun v s' => Made G C E s' v) E s) : wpAny G.M A (raiseStmt env (some x) none) Q E s := by
  unfold raiseStmt
  refine wpAny_bind (wpAny_mono h (fun v s₁ h₁ => ?_) fun _ _ q => q)
  obtain @⟨e, oe, vs, X₁, he, hc, hd, h1, hE⟩ := h₁
  obtain ⟨P, ⟨hC⟩⟩ := K.obj
  have hC' := X₁ _ _ hC
  obtain ⟨hp, g, d, tk, os⟩ := s₁
  dsimp only at he hC' X₁
  obtain ⟨oc, od, oda, osl⟩ := oe
  dsimp only at hc hd
  subst hc hd
  have hcB : (Value.ref C :: excBm P).contains (.type "BaseException") = true := by rw [List.contains_cons, (excBm_facts P).b, Bool.or_true]
  repeat (first | (with_reducible refine wpAny_loadPart_at he ?_; dsimp only) | with_reducible refine wpAny_loadPart_at hC' ?_ | (with_reducible refine wpAny_isSubtype_exc hC' ?_; rw [hcB]) | wp_step)
  rw [h1]
  refine wpAny_pure ?_
  rw [if_neg (by decide)]
  exact wpAny_pure (wpAny_raiseNew_none hh hE)

/-- raise C(x), C one of the text's own exceptions -/
def wRaise (c : Exn) (P : PE) : PS := fun ρ μ _ _ Ex => P ρ μ (fun _ μ' => Ex c μ') Ex
theorem SV_raise (O : G.Ok) {c : Exn} {fI : Addr} {x : Str} {arg : Expr} {P : PE} {np cpos pos : Pos} (E : ExcK G.K (G.eA c) fI) (F : PressFn G fI) (hy : EV G (b + 1) fs ns arg P) (hn : noStar [arg] = true) (hx : fs.sc.names.lookup x = some .globalImplicit)
    (hg : nsIn G.K mainGlobals x = some (some (.ref (G.eA c)))) (hd : (x == ("__debug__" : Str)) = false) :
    SV G (b + 1) fs ns (.Raise (some (.Call (.Name x np) [arg] [] cpos)) none pos) (wRaise c P) := fun A env θ X s ρ μ Nx Rt Ex hA he hF St p => by
  obtain ⟨_, _, T⟩ := O.T
  rw [arm_exec_Raise]
  show wpAny _ _ (do standAt pos; raiseStmt env (some (do let v ← eval (.Call (.Name x np) [arg] [] cpos) env; standAt pos; pure v)) none) _ _ _
  refine wpAny_bind (wpAny_standAt ?_)
  have key : wpAny G.M A (eval (.Call (.Name x np) [arg] [] cpos) env) (fun v s' => Made G (G.eA c) (PostSX G A env ns θ X s Ex) s' v) (PostSX G A env ns θ X s Ex) s := by
    refine wpAny_Call_Name_kw (Name_function_global St.eo.kind (by unfold Env.kindOf; rw [he.1]; exact hx) (loadGlobal_global (env := env) (by rw [St.eo.glob]; exact T.g.keeps St.inv.base) (mg_of O.X T.g hg) ?_) hd)
    refine callWith_any (G := G) (P := fun h => G.K.In h) hn (fun h X => keeps_K E.keep h X) ?_
    show wpAny _ _ (spliced ((false, eval arg env) :: [])) _ _ _
    refine spliced_cons (hy.go hA he St p (fun v s₁ θ₁ X₁ d μ₁ e₁ S₁ R₁ q₁ r₁ => spliced_nil ⟨O.X.keeps S₁.inv.base, wpAny_call ?_⟩) fun _ _ q => q.toS)
    have X₁' := O.X.keeps S₁.inv.base
    obtain ⟨P', ⟨hC⟩⟩ := E.obj
    obtain ⟨hA', f1, f2⟩ := under_aok (C := .ref (G.eA c)) (vals := [v]) hA
    have hsz : (s₁.heap.push { cls := .type "tuple", data := .seq [v].toArray }).objs.size = s₁.heap.objs.size + 1 := Heap.size_push ..
    have mk : ∀ {R : Result → Shared → Prop}, codeAny G.M (A.under (.builtin "type.__call__" ⟨.ref (G.eA c) :: [v], []⟩)) (.call (.ref fI) ⟨.ref (s₁.heap.objs.size + 1) :: [v], []⟩) (InitBack (s₁.heap.objs.size + 1) R)
        { s₁ with heap := (s₁.heap.push { cls := .type "tuple", data := .seq [v].toArray }).push (excObj (G.eA c) s₁.heap.objs.size) } → codeAny G.M A (.call (.ref (G.eA c)) ⟨[v], []⟩) R s₁ := fun {R} hq => by
      obtain ⟨hh, g, d, t, os⟩ := s₁
      exact exc_call (excBm_facts P') X₁' hC E.call E.inst E.init E.fn hq (by rw [sizeLine_eq]; exact Nat.le_of_ble_eq_true rfl)
    refine mk ?_
    have k12 : Kp [] [] s₁.heap ((s₁.heap.push { cls := .type "tuple", data := .seq [v].toArray }).push (excObj (G.eA c) s₁.heap.objs.size)) := (Kp.push _).trans (.push _)
    have he₂ : ((s₁.heap.push { cls := .type "tuple", data := .seq [v].toArray }).push (excObj (G.eA c) s₁.heap.objs.size)).get? (s₁.heap.objs.size + 1) = some (excObj (G.eA c) s₁.heap.objs.size) := by rw [← hsz]; exact Heap.get?_push_size _ rfl
    have hle : s₁.heap.objs.size ≤ s₁.heap.objs.size + 1 := Nat.le_succ _
    have hbase : ∀ a o, G.h₀.get? a = some o → ((s₁.heap.push { cls := .type "tuple", data := .seq [v].toArray }).push (excObj (G.eA c) s₁.heap.objs.size)).get? a = some o := fun a o g => k12.get (S₁.inv.base a o g) (fun q => nomatch q) fun q => nomatch q
    refine codeAny_mono (press_init O E F hbase (by have := hA'.2.1; show _ < 1000; omega) (base_none S₁.inv hle) he₂) (fun r s₃ hr => ?_)
    obtain ⟨rfl, @⟨oe, vs, k3, g1, g2, g3, g4⟩, rr⟩ := hr
    refine ⟨rfl, .mk ?_ g1 g2 g3 g4 ?_⟩
    all_goals
      have k13 : Kp [] [] s₁.heap s₃.heap := k12.trans' k3 (fun a ha => .inr (by rw [List.mem_singleton.mp ha]; exact hle)) fun _ q => nomatch q
    · exact O.X.keeps fun c o g => k13.get (S₁.inv.base c o g) (fun q => nomatch q) fun q => nomatch q
    · have eX : ∀ {a : Addr}, a ∈ X₁ → a ≠ s₁.heap.objs.size + 1 := fun q z => absurd (S₁.own.lt _ q) (Nat.not_lt.mpr (z ▸ hle))
      have gr : Grow G s₁.heap X₁ s₃.heap ((s₁.heap.objs.size + 1) :: X₁) := ⟨fun a q => .tail _ q, fun a q => (List.mem_cons.mp q).elim (fun z => .inr (z ▸ hle)) .inl, fun a q => (List.mem_cons.mp q).elim (fun z => z ▸ Heap.lt_size g1) fun q => Nat.lt_of_lt_of_le (S₁.own.lt a q) k13.1,
        fun a q => (List.mem_cons.mp q).elim (fun z => z ▸ base_none S₁.inv hle) (S₁.own.new a)⟩
      have k13F : Kp [] (FL A) s₁.heap s₃.heap := k13.mono (fun _ q => nomatch q) fun _ q => nomatch q
      have S₃ := S₁.move k13F (fun _ q => nomatch q) gr
      have e3 : Ext G A θ₁ X₁ s₁.heap θ₁ ((s₁.heap.objs.size + 1) :: X₁) s₃.heap := .of_grow (k13.mono (fun _ q => nomatch q) fun _ q => nomatch q) gr
      exact ⟨θ₁, _, ρ, s₁.heap.objs.size + 1, c, μ₁, rfl, (e₁.trans e3).toS, S₃, ⟨⟨.head _, Nat.le_trans e₁.kp.1 hle, fun q => eX (S₁.own.inX _ (.inl q)) rfl, fun q => eX (S₁.own.inX _ (.inr (.inl q))) rfl⟩, oe, vs, g1, g2, g3, .inl g4⟩, q₁, r₁.trans (Rest.mkH.trans rr)⟩
  exact raise_made' E hA.1 (wpAny_bind (wpAny_mono key (fun v s' q => wpAny_bind (wpAny_standAt (wpAny_pure q))) fun _ _ q => q))
end
end Mine
namespace Mine
open PySem PySem.W PySem.Calls PyProof.Rows

theorem triples_snoc (l : List Value) (i j : Nat) (c : Value) (h : TriplesOk l) : TriplesOk (l ++ [rawInt i, rawInt j, c]) := by
  fun_induction TriplesOk l with
  | case1 => trivial
  | case2 a t b t' x r ih => exact ih h
  | case3 => exact h.elim
theorem among_snoc {pos : Pos} {cv : Value} (l : List Value) (i j : Nat) (c : Value) (h : TriplesOk l) (e : codeAmong pos (l ++ [rawInt i, rawInt j, c]) = some cv) : codeAmong pos l = some cv ∨ cv = c := by
  fun_induction TriplesOk l with
  | case1 =>
    rw [List.nil_append] at e
    unfold codeAmong rawInt at e
    dsimp only at e
    split at e
    · exact .inr (Option.some.inj e).symm
    · unfold codeAmong at e; cases e
  | case2 a t b t' x r ih =>
    rw [List.cons_append, List.cons_append, List.cons_append] at e
    unfold codeAmong at e ⊢
    split at e
    · rename_i hh; rw [if_pos hh]; exact .inl e
    · rename_i hh; rw [if_neg hh]; exact ih h e
  | case3 => exact h.elim

section
variable {G : Gr} {b : Nat} {fs : Fs} {ns nsl : List Str} {A : Around} {env cenv : Env} {θ X θ' X' θ'' X'' : List Addr} {h h' h'' hs : Heap} {ρ ρ' : List (Option D)} {μ μ' : List MO} {s s' : Shared} {W : List Addr}

/-! ## a lambda made -/
/-- the tables may get new codes -/
theorem Inv.tab (I : Inv G A X h) (W : Own G A h θ X) {c P : Addr} (hq : (c, P) ∈ G.tabs) (k : Kp [P] [] h h') {ps : Array Value} (hP : h'.get? P = some (tabObj ps)) (ht : TriplesOk ps.toList)
    (hc : ∀ pos cv, codeAmong pos ps.toList = some cv → CodAt G X h' P cv) : Inv G A X h' := by
  have PX : P ∈ X := W.inX P (.inr (.inl (List.mem_map_of_mem hq)))
  have Pt : P ∈ G.tA := List.mem_map_of_mem hq
  refine ⟨fun b o e => ?_, fun q hq' => ?_, I.fs, fun e he => ?_⟩
  · refine k.get (I.base b o e) (fun z => ?_) fun z => nomatch z
    rw [List.mem_singleton.mp z, W.new P PX] at e; cases e
  · by_cases hz : q.2 = P
    · exact .mk (hz ▸ hP) ht fun pos cv e => hz ▸ hc pos cv e
    · exact (I.tabs q hq').mono (fun o e => k.get e (fun z => hz (List.mem_singleton.mp z)) (fun z => nomatch z)) fun c s h2 h3 => ⟨codeRec_kp k (fun z => h3 (List.mem_singleton.mp z ▸ PX)) h2, h3⟩
  · obtain ⟨h1, L, o, es, n, h2, h3, h4, h5⟩ := I.frames e he
    have hL : L ∈ FL A := List.mem_filterMap.mpr ⟨e, he, h2⟩
    exact ⟨h1, L, o, es, n, h2, h3, k.get h4 (fun z => (W.fl L hL).2 (by rw [List.mem_singleton.mp z]; exact Pt)) (fun z => nomatch z), h5⟩

def LamAt (G : Gr) (h : Heap) (X : List Addr) (f c' : Addr) (qual : Str) (params : Arguments) (body : Expr) (scope : Scope) (cl : List (Str × Addr)) : Prop :=
  f ∉ X ∧ h.CodeRec (.ref c') qual ∧ ∃ pm ctv, h.get? f = some (kla_obj "<lambda>" qual params body scope cl pm c' ctv)

theorem mk_lam (O : G.Ok) {params : Arguments} {body : Expr} {scope : Scope} {pos : Pos} {c P : Addr} (hdef : defaultsOf params env = ([], [])) (hcl : closureFor scope env = pure (clF env scope.names [])) (hcode : env.code = .ref c) (hq : (c, P) ∈ G.tabs) (hqual : G.tq P = env.qual ++ "<lambda>")
    (S : Stt G A env ns θ X s.heap ρ μ) {Q : Value → Shared → Prop} {E : Value → Shared → Prop}
    (h : ∀ f c' s', LamAt G s'.heap X f c' (env.qual ++ "<lambda>") params body scope (clF env scope.names []) → Ext G A θ X s.heap θ X s'.heap → Stt G A env ns θ X s'.heap ρ μ → Rest s s' → Q (.ref f) s') :
    wpAny G.M A (eval (.Lambda params body scope pos) env) Q E s := by
  obtain ⟨_, _, T⟩ := O.T
  refine kla_eval hdef ?_
  obtain @⟨ps, hP, ht, hc⟩ := S.inv.tabs (c, P) hq
  dsimp only at hP hc
  have Pt : P ∈ G.tA := List.mem_map_of_mem (f := (·.2)) hq
  have PX : P ∈ X := S.own.inX P (.inr (.inl Pt))
  have Pn := S.own.new P PX
  have hg := T.g.keeps S.inv.base
  have hC := (O.code _ hq).keeps S.inv.base
  obtain ⟨bm, ob, b1, b2, b3, b4, b5, b6⟩ := O.bmain
  have hgP : mainGlobals ≠ P := fun z => by
    obtain ⟨o, es, ep, e, hd, _⟩ := T.g
    rw [z, Pn] at e; cases e
  have hbP : bm ≠ P := fun z => by rw [z, Pn] at b3; cases b3
  have hbG : bm ≠ mainGlobals := fun z => by
    obtain ⟨o, es, ep, e, hd, _⟩ := T.g
    rw [z, e] at b3; cases b3; rw [hd] at b6; cases b6
  have hB : s.heap.BuiltinsAt _ P := ⟨bm, ob, b1, b2, hbG, hbP, S.inv.base _ _ b3, b4, b5, b6⟩
  have fin : ∀ {h' : Heap} {tk : Tok} {f c' : Addr} {o : Obj} {pm ctv : Value} {ps' : Array Value}, f = h'.objs.size → Kp [P] [] s.heap h' → h'.get? P = some (tabObj ps') → TriplesOk ps'.toList →
      (∀ pos cv, codeAmong pos ps'.toList = some cv → CodAt G X h' P cv) → h'.CodeRec (.ref c') (env.qual ++ "<lambda>") → o = kla_obj "<lambda>" (env.qual ++ "<lambda>") params body scope (clF env scope.names []) pm c' ctv → Q (.ref f) { s with heap := h'.push o, toks := tk } := by
    intro h' tk f c' o pm ctv ps' hf k hP' ht' hc' hr ho
    have kp : Kp [P] [] s.heap (h'.push o) := k.trans (.push _)
    have kr : ∀ {c q}, h'.CodeRec (.ref c) q → (h'.push o).CodeRec (.ref c) q := fun x => codeRec_kp (Kp.push (W := []) (F := []) o) (fun z => nomatch z) x
    have I := S.inv.tab S.own hq kp (Heap.get?_push_of_some _ hP') ht' fun pos cv e => by
      obtain ⟨h2, h3⟩ := hc' pos cv e
      exact .mk (kr h2) h3
    have kt : Kp G.tA (FL A) s.heap (h'.push o) := kp.mono (fun a ha => .inl (by rw [List.mem_singleton.mp ha]; exact Pt)) fun _ z => nomatch z
    have S' := S.call0 kt I (.same S.own kp.1)
    refine h f c' _ ⟨fun z => absurd (S.own.lt f z) (Nat.not_lt.mpr (hf ▸ k.1)), kr hr, pm, ctv, ?_⟩ (.of_kp (kt.mono (fun a ha => .inl (List.mem_append_right _ ha)) fun _ z => .inl z)) S' .mk
    show (h'.push o).get? f = _
    rw [hf, ho]
    exact Heap.get?_push_size _ rfl
  cases hf : codeAmong pos ps.toList with
  | none =>
    refine kla_makeFunction hcl S.eo.glob hg hcode hC hP ht hf hgP hB fun c' ctv h' tk hx hge hlt hrec htb => ?_
    have k : Kp [P] [] s.heap h' := .of_all (Nat.le_trans hge (Nat.le_of_lt hlt)) fun b o e hb => hx b o (fun z => hb (List.mem_singleton.mpr z)) e
    refine fin rfl k htb (by rw [Array.toList_append]; exact triples_snoc _ _ _ _ ht) (fun pos' cv e => ?_) hrec rfl
    rw [Array.toList_append] at e
    rcases among_snoc _ _ _ _ ht e with e | e
    · obtain ⟨h2, h3⟩ := hc pos' cv e
      exact .mk (codeRec_kp k (fun z => h3 (List.mem_singleton.mp z ▸ PX)) h2) h3
    · exact e ▸ .mk (hqual ▸ hrec) fun z => absurd (S.own.lt c' z) (Nat.not_lt.mpr hge)
  | some cv =>
    obtain ⟨h2, h3⟩ := hc pos cv hf
    refine kla_makeFunctionHit hcl S.eo.glob hg hcode hC hP ht hf hB fun ctv h' tk hk hz => ?_
    have k : Kp [P] [] s.heap h' := .of_all hz fun b o e _ => hk b o e
    have kr : ∀ {c q}, s.heap.CodeRec (.ref c) q → h'.CodeRec (.ref c) q := fun x => codeRec_kp (Kp.of_all (W := []) (F := []) hz fun b o e _ => hk b o e) (fun z => nomatch z) x
    exact fin rfl k (hk _ _ hP) ht (fun pos' cv e => by
      obtain ⟨h2, h3⟩ := hc pos' cv e
      exact .mk (kr h2) h3) (hqual ▸ kr h2) rfl
end
end Mine
namespace Mine
open PySem PySem.W PySem.Calls PyProof.Rows

section
variable {G : Gr} {b : Nat} {fs : Fs} {ns nsl nsw : List Str} {A : Around} {env envw cenv : Env} {θ X θ' X' θ'' X'' : List Addr} {h h' h'' hs : Heap} {ρ ρ' ρw : List (Option D)} {μ μ' : List MO} {s s' : Shared} {W : List Addr}

theorem lam_call (O : G.Ok) {f c' : Addr} {qual : Str} {params : Arguments} {body : Expr} {lsc : Scope} {cl : List (Str × Addr)} {ρl : List (Option D)} {P : PE} {Q : D → List MO → Prop} {Ex : Exn → List MO → Prop}
    (hp : EV G b ⟨lsc, .ref c', qual ++ ".<locals>."⟩ nsl body P) (hA : AOk A (b + 1)) (S : Stt G A envw nsw θ X s.heap ρw μ) (L : LamAt G s.heap X f c' qual params body lsc cl) (H : Held G A nsl (fun x => lsc.names.lookup x = some .free) cl θ X s.heap ρl)
    (hco : lsc.isCoroutine = false) (hgen : lsc.isGenerator = false) (hk : lsc.kind = .function) (hcell : ∀ x ∈ lsc.names, x.2 ≠ .cell) (hbind : ∀ pm cdv ctv, bindArgs (kla_fn "<lambda>" qual params body lsc cl pm cdv ctv) ⟨[], []⟩ = pure [])
    (p : P ρl μ Q Ex) : wpAny G.M A (call (.ref f) []) (Post G A envw nsw ρw θ X s Q) (PostX G A envw nsw ρw θ X s Ex) s := by
  obtain ⟨_, _, T⟩ := O.T
  obtain ⟨fX, hrec, pm, ctv, hf⟩ := L
  have hroom : A.depth < recursionLimit := by have := hA.2.1; show A.depth < 1000; omega
  refine wpAny_call (kla_callFunE hroom hf rfl hco hgen rfl hrec ?_)
  rw [hbind]
  refine wpAny_pure (wpAny_newFunctionEnv hcell (fun _ q => nomatch q) (fun h₁ hns hsb => ?_) hk)
  generalize hL : s.heap.objs.size = L at hns hsb
  have old : ∀ c o, s.heap.get? c = some o → h₁.get? c = some o := fun c o g => hsb.extBut c o (by rw [← hL]; exact Nat.ne_of_lt (Heap.lt_size g)) (Heap.get?_push_of_some _ g)
  have hz₁ : h₁.objs.size = L + 1 := by rw [hsb.1, Heap.size_push, hL]
  have k01 : Kp [] [] s.heap h₁ := kp_keep old (by rw [hz₁, hL]; exact Nat.le_succ _)
  refine ⟨T.nolimit.keeps fun c o e => old c o (S.inv.base c o e), ?_⟩
  show codeAny _ _ (.expr body (envX qual lsc _ f (.ref c') cl)) _ _
  refine kla_codeExpr ?_
  generalize hE : envX qual lsc L f (.ref c') cl = el
  have eloc : el.locals = L := by rw [← hE]
  have ecell : el.cells = cl := by rw [← hE]
  have efr : el.frame = some el.locals := by rw [← hE]
  have esc : el.scope = lsc := by rw [← hE]
  have eA : envA el = L :: cl.map (·.2) := by unfold envA; rw [eloc, ecell]
  obtain ⟨f1, f2, f3⟩ := fl_deeper (env := el) S.inv.fs efr
  have hA' : AOk (A.deeper el) b := ⟨hA.1, by have := hA.2.1; show A.depth + 1 + 8 * b + 20 ≤ 1000; omega, by have := hA.2.2; show A.units + 3 + 100 * b + 300 ≤ 9900; omega⟩
  have hok : (⟨lsc, .ref c', qual ++ ".<locals>."⟩ : Fs).ok el := ⟨esc, by rw [← hE], by rw [← hE], by rw [← hE], fun n hn => absurd rfl (hcell (n, .cell) (mem_of_lookup hn))⟩
  have LX : L ∉ X := fun q => absurd (S.own.lt L q) (by rw [hL]; exact Nat.lt_irrefl _)
  have LF : ∀ a ∈ X, a ≠ L := fun a q z => LX (z ▸ q)
  have hLd : ∃ o es n, h₁.get? L = some o ∧ o.data = .dict es n := by
    obtain ⟨o, es, ep, e, hd, _⟩ := hns
    exact ⟨o, es, ep, e, hd⟩
  have kF : Kp [] (FL A) s.heap h₁ := k01.mono (fun _ q => nomatch q) fun _ q => nomatch q
  have gr : Grow G s.heap X h₁ (L :: X) := ⟨fun a q => .tail _ q, fun a q => (List.mem_cons.mp q).elim (fun z => .inr (by rw [z, hL]; exact Nat.le_refl _)) .inl, fun a q => (List.mem_cons.mp q).elim (fun z => by rw [z, hz₁]; exact Nat.lt_succ_self _) fun q => Nat.lt_of_lt_of_le (S.own.lt a q) k01.1,
    fun a q => (List.mem_cons.mp q).elim (fun z => base_none S.inv (by rw [z, hL]; exact Nat.le_refl _)) (S.own.new a)⟩
  have S₁ := S.move kF (fun _ q => nomatch q) gr
  have LO : L ∉ θ ∧ L ∉ G.tA := ⟨fun q => LX (S.own.inX _ (.inl q)), fun q => LX (S.own.inX _ (.inr (.inl q)))⟩
  rw [eloc] at f2
  have S₂ : Stt G (A.deeper el) el nsl θ (L :: X) h₁ ρl μ := by
    refine (H.move S.own k01 gr.sup gr.sub fun a ha hf q => ?_).stt ⟨S₁.inv.base, S₁.inv.tabs, f3, fun e he => ?_⟩ ⟨fun a ha => ?_, S₁.own.lt, S₁.own.nd, fun a ha => ?_, S₁.own.new⟩ S₁.muts ecell (by rw [esc]; exact hk) (by rw [← hE]) (by rw [eloc]; exact hns) (by rw [eloc]; exact ⟨.head _, LO⟩) (fun p hp => by rw [eloc]; exact LF p.2 (H.inX p hp)) fun x hx => .inr (by unfold Env.kindOf; rw [esc]; exact hx)
    · rw [f2] at q
      exact (List.mem_cons.mp q).elim (LF a ha) hf
    · rw [f1] at he
      rcases List.mem_cons.mp he with rfl | he
      · obtain ⟨o, es, n, e1, e2⟩ := hLd
        exact ⟨by rw [esc, hk]; decide, L, o, es, n, by rw [efr, eloc], base_none S.inv (by rw [hL]; exact Nat.le_refl _), e1, e2⟩
      · exact S₁.inv.frames e he
    · rw [f2] at ha
      rcases ha with ha | ha | ha
      · exact S₁.own.inX a (.inl ha)
      · exact S₁.own.inX a (.inr (.inl ha))
      · exact (List.mem_cons.mp ha).elim (fun z => z ▸ .head _) fun ha => S₁.own.inX a (.inr (.inr ha))
    · rw [f2] at ha
      exact (List.mem_cons.mp ha).elim (fun z => z ▸ LO) (S.own.fl a)
  have e01 : Ext G A θ X s.heap θ (L :: X) h₁ := .of_grow (k01.mono (fun _ q => nomatch q) fun _ q => nomatch q) gr
  -- back in the caller's block
  have down : ∀ {θ₂ X₂ h₂ ρ₂ μ₂}, Ext G (A.deeper el) θ (L :: X) h₁ θ₂ X₂ h₂ → Stt G (A.deeper el) el nsl θ₂ X₂ h₂ ρ₂ μ₂ → Ext G A θ X s.heap θ₂ X₂ h₂ ∧ Stt G A envw nsw θ₂ X₂ h₂ ρw μ₂ := by
    intro θ₂ X₂ h₂ ρ₂ μ₂ e₂ S₂
    have e : Ext G A θ X s.heap θ₂ X₂ h₂ := by
      obtain ⟨nw, hnw, hn⟩ := e₂.new
      refine ⟨e01.kp.trans' e₂.kp (fun _ q => .inl q) fun a q => ?_, ⟨nw, hnw, fun a ha => Nat.le_trans k01.1 (hn a ha)⟩, fun a ha => e₂.sup a (.tail _ ha), fun a ha => ?_⟩
      · rw [f2] at q
        exact (List.mem_cons.mp q).elim (fun z => .inr (by rw [z, hL]; exact Nat.le_refl _)) .inl
      · rcases e₂.sub a ha with q | q
        · exact gr.sub a q
        · exact .inr (Nat.le_trans k01.1 q)
    refine ⟨e, S.back' e ⟨S₂.inv.base, S₂.inv.tabs, S.inv.fs, fun x hx => S₂.inv.frames x (by rw [f1]; exact .tail _ hx)⟩ ⟨fun a ha => S₂.own.inX a (ha.imp id (Or.imp id fun q => by rw [f2]; exact .tail _ q)), S₂.own.lt, S₂.own.nd, fun a ha => S₂.own.fl a (by rw [f2]; exact .tail _ ha), S₂.own.new⟩ S₂.muts⟩
  refine wpAny_mono (hp (A.deeper el) el θ (L :: X) _ ρl μ Q Ex hA' hok S₂ p) (fun v s₂ h₂ => ?_) fun v s₂ h₂ => ?_
  · obtain ⟨θ₂, X₂, d, μ₂, e₂, S₂', R, q, r⟩ := h₂
    obtain ⟨e, S'⟩ := down e₂ S₂'
    exact ⟨θ₂, X₂, d, μ₂, e, S', R, q, Rest.mk.trans r⟩
  · obtain ⟨θ₂, X₂, e, c, μ₂, rfl, e₂, S₂', x₂, q, r⟩ := h₂
    unfold leaving
    refine wpAny_bind (exc_note f1 efr S₂' x₂ fun X₃ h₃ W₃ kp₃ hW₃ gr₃ S₃ x₃ => ?_)
    refine exc_flight (s := { s₂ with heap := h₃ }) S₃ x₃ fun h₄ W₄ kp₄ hW₄ S₄ x₄ => ?_
    have e₄ : Ext G (A.deeper el) θ (L :: X) h₁ θ₂ X₃ h₄ := by
      refine ⟨(e₂.kp.trans' kp₃ (fun a ha => .inr (hW₃ a ha).2.1) fun _ q => .inl q).trans' kp₄ (fun a ha => .inr (hW₄ a ha).2.1) fun _ q => .inl q, e₂.new, fun a ha => gr₃.sup a (e₂.sup a ha), fun a ha => ?_⟩
      rcases gr₃.sub a ha with q | q
      · exact e₂.sub a q
      · exact .inr (Nat.le_trans e₂.kp.1 q)
    obtain ⟨e', S'⟩ := down e₄ S₄
    exact ⟨θ₂, X₃, e, c, μ₂, rfl, e', S', x₄.at.le k01.1, q, (Rest.mk.trans r).trans .mkH⟩
end
end Mine
namespace Mine
open PySem PySem.W PySem.Calls PyProof.Rows

structure ExcCls (G : Gr) (pa : Addr) : Prop where
  obj : ∀ c, ExcObj G.K (G.eA c) pa
  inj : ∀ c c', G.eA c = G.eA c' → c = c'
  off : ∀ c, G.eA c ≠ pa
inductive Hds (G : Gr) (fs : Fs) : List ExceptHandler → List (Exn × Str) → Prop
  | nil : Hds G fs [] []
  | cons {x : Str} {c : Exn} {w : Str} {p1 p2 p3 p4 : Pos} {k} {r : List ExceptHandler} {sp : List (Exn × Str)} : fs.sc.names.lookup x = some .globalImplicit → nsIn G.K mainGlobals x = some (some (.ref (G.eA c))) → (x == ("__debug__" : Str)) = false → Hds G fs r sp →
      Hds G fs (.ExceptHandler (some (.Name x p1)) none [.Return (some (.Constant (.str w) k p2)) p3] p4 :: r) ((c, w) :: sp)
inductive Wd : List (Exn × Str) → Exn → Str → Prop
  | here {c w sp} : Wd ((c, w) :: sp) c w
  | there {c c' w w' sp} : c' ≠ c → Wd sp c w → Wd ((c', w') :: sp) c w

section
variable {G : Gr} {b : Nat} {fs : Fs} {ns nsl nsw : List Str} {A : Around} {env envw cenv : Env} {θ X θ' X' θ'' X'' : List Addr} {h h' h'' hs : Heap} {ρ ρ' ρw : List (Option D)} {μ μ' : List MO} {s s' : Shared} {W : List Addr} {pa : Addr}

theorem exc_hit (K : ExcCls G pa) {c : Exn} {e : Addr} {oe : Obj} {Q : Bool → Shared → Prop} {E : Value → Shared → Prop} (X : G.K.In s.heap) (he : s.heap.get? e = some oe) (hcls : oe.cls = .ref (G.eA c)) (hq : Q true s) : wpAny G.M A (excMatches (.ref e) (.ref (G.eA c))) Q E s := by
  obtain ⟨hC⟩ := K.obj c
  obtain ⟨hh, g, d, tk, os⟩ := s
  exact wpAny_excMatches_sub_self (X _ _ hC) he hcls (excBm_facts pa).b hq
theorem exc_miss (K : ExcCls G pa) {c c' : Exn} {e : Addr} {oe : Obj} {Q : Bool → Shared → Prop} {E : Value → Shared → Prop} (X : G.K.In s.heap) (he : s.heap.get? e = some oe) (hcls : oe.cls = .ref (G.eA c)) (hne : c' ≠ c) (hq : Q false s) : wpAny G.M A (excMatches (.ref e) (.ref (G.eA c'))) Q E s := by
  obtain ⟨hC⟩ := K.obj c
  obtain ⟨hC'⟩ := K.obj c'
  obtain ⟨hh, g, d, tk, os⟩ := s
  have hC := X _ _ hC
  have hC' := X _ _ hC'
  have hcB : (Value.ref (G.eA c') :: excBm pa).contains (.type "BaseException") = true := by rw [List.contains_cons, (excBm_facts pa).b, Bool.or_true]
  have n1 : G.eA c' ≠ G.eA c := fun z => hne (K.inj _ _ z)
  have n2 := K.off c'
  have hcC : (Value.ref (G.eA c) :: excBm pa).contains (.ref (G.eA c')) = false := by
    show ((Value.ref (G.eA c') == Value.ref (G.eA c)) || ((Value.ref (G.eA c') == Value.ref pa) || false)) = false
    rw [beq_eq_false_iff_ne.mpr fun q => n1 (Value.ref.inj q), beq_eq_false_iff_ne.mpr fun q => n2 (Value.ref.inj q)]; rfl
  have f := tc_notTuple
  unfold excMatches
  repeat (first | (with_reducible refine wpAny_loadPart_at he ?_; rw [hcls]) | with_reducible refine wpAny_loadPart_at hC' ?_ | with_reducible refine wpAny_loadPart_at hC ?_ | (with_reducible refine wpAny_isSubtype_exc hC' ?_; rw [hcB]) | (with_reducible refine wpAny_isSubtype_exc hC ?_; rw [hcC]) | wp_step)
  exact hq

theorem Stt.mark (S : Stt G A env ns θ X h ρ μ) (o : Option Value) : Stt G (A.mark o) env ns θ X h ρ μ :=
  ⟨⟨S.inv.base, S.inv.tabs, S.inv.fs, S.inv.frames⟩, ⟨S.own.inX, S.own.lt, S.own.nd, S.own.fl, S.own.new⟩, S.muts, ⟨S.eo.kind, S.eo.glob, S.eo.ns, S.eo.cells, S.eo.inX, S.eo.off, S.eo.nd, S.eo.nfl⟩, S.var⟩
theorem Stt.unmark {o : Option Value} (S : Stt G (A.mark o) env ns θ X h ρ μ) : Stt G A env ns θ X h ρ μ :=
  ⟨⟨S.inv.base, S.inv.tabs, S.inv.fs, S.inv.frames⟩, ⟨S.own.inX, S.own.lt, S.own.nd, S.own.fl, S.own.new⟩, S.muts, ⟨S.eo.kind, S.eo.glob, S.eo.ns, S.eo.cells, S.eo.inX, S.eo.off, S.eo.nd, S.eo.nfl⟩, S.var⟩

theorem handle (O : G.Ok) (K : ExcCls G pa) {e : Addr} {c : Exn} {w : Str} {l : List ExceptHandler} {sp : List (Exn × Str)} (H : Hds G fs l sp) (hw : Wd sp c w) (he : fs.ok env) {Q : Flow → Shared → Prop} {E : Value → Shared → Prop} : ∀ {s : Shared}, Stt G A env ns θ X s.heap ρ μ → ExcTr G hs θ X s.heap e c →
    (∀ t s' W, Kp W (FL A) s.heap s'.heap → (∀ a ∈ W, Loose G hs θ X a) → Stt G A env ns θ X s'.heap ρ μ → Rest s s' → Q (.ret (.str w t)) s') → wpAny G.M A (handleBy (.ref e) env l) Q E s := by
  obtain ⟨_, _, T⟩ := O.T
  induction H with
  | nil => cases hw
  | @cons x c' w' p1 p2 p3 p4 k r sp hx hg hd Hr ih =>
    intro s S x₀ fin
    have X₁ := O.X.keeps S.inv.base
    have x₀' := x₀
    obtain ⟨le, oe, vs, T', oT, ts, g1, g2, g3, g4, lT, hTe, hT, hdT, h3⟩ := x₀'
    refine wpAny_handleBy_cons (codeAny_handlers_test (Name_function_global S.eo.kind (by unfold Env.kindOf; rw [he.1]; exact hx) (loadGlobal_global (env := env) (by rw [S.eo.glob]; exact T.g.keeps S.inv.base) (mg_of O.X T.g hg) ?_) hd)) (by intro q; cases q)
    cases hw with
    | here =>
      refine exc_hit K X₁ g1 g2 ?_
      refine codeAny_handlers_suite (exc_flight (S.mark _) x₀ fun h' W kp hW S' x' => ?_)
      refine wpAny_execs_cons (wpAny_Return_some (wpAny_Constant_str ?_))
      exact fin _ _ W kp hW S'.unmark .mk
    | there hne hw =>
      exact exc_miss K X₁ g1 g2 hne (ih hw S x₀ fin)
end
end Mine
namespace Mine
open PySem PySem.W PySem.Calls PyProof.Rows

section
variable {G : Gr} {b : Nat} {fs : Fs} {ns nsl nsw : List Str} {A : Around} {env envw cenv : Env} {θ X θ' X' θ'' X'' : List Addr} {h h' h'' hs : Heap} {ρ ρ' ρw : List (Option D)} {μ μ' : List MO} {s s' : Shared} {W : List Addr} {pa : Addr}

def wordBody (hs : List ExceptHandler) (p1 p2 p3 p4 : Pos) : List Stmt := [.Try [.Return (some (.Call (.Name "call" p1) [] [] p2)) p3] hs [] [] p4]
theorem ext_loose (e : Ext G A θ X h θ' X' h') {X₃ : List Addr} {h₃ : Heap} (k : Kp W (FL A) h' h₃) (hW : ∀ a ∈ W, Loose G h θ' X' a) (gr : Grow G h' X' h₃ X₃) : Ext G A θ X h θ' X₃ h₃ := by
  refine ⟨e.kp.trans' k (fun a ha => .inr (hW a ha).2.1) fun _ q => .inl q, e.new, fun a ha => gr.sup a (e.sup a ha), fun a ha => ?_⟩
  exact (gr.sub a ha).elim (e.sub a) fun q => .inr (Nat.le_trans e.kp.1 q)

theorem word_body (O : G.Ok) (K : ExcCls G pa) {hl : List ExceptHandler} {h1 : ExceptHandler} {p1 p2 p3 p4 : Pos} {sp : List (Exn × Str)} (Hh : Hds G fs (h1 :: hl) sp) (hkc : fs.sc.names.lookup ("call" : Str) = some .local)
    {f c' : Addr} {qual : Str} {params : Arguments} {body : Expr} {lsc : Scope} {cl : List (Str × Addr)} {ρl : List (Option D)} {P : PE} {Q : D → List MO → Prop}
    (hp : EV G b ⟨lsc, .ref c', qual ++ ".<locals>."⟩ nsl body P) (hA : AOk A (b + 1)) (he : fs.ok envw) (hF : InFr A envw) (S : Stt G A envw [("call" : Str)] θ X s.heap [some (.val (.ref f))] μ) (L : LamAt G s.heap X f c' qual params body lsc cl) (H : Held G A nsl (fun x => lsc.names.lookup x = some .free) cl θ X s.heap ρl)
    (hco : lsc.isCoroutine = false) (hgen : lsc.isGenerator = false) (hk : lsc.kind = .function) (hcell : ∀ x ∈ lsc.names, x.2 ≠ .cell) (hbind : ∀ pm cdv ctv, bindArgs (kla_fn "<lambda>" qual params body lsc cl pm cdv ctv) ⟨[], []⟩ = pure [])
    (p : P ρl μ Q (fun c μ' => ∃ w, Wd sp c w ∧ Q (.str w) μ')) {Nx : List (Option D) → List MO → Prop} {Ex : Exn → List MO → Prop} :
    wpAny G.M A (execs (wordBody (h1 :: hl) p1 p2 p3 p4) envw) (PostS G A envw [("call" : Str)] θ X s Nx Q) (PostSX G A envw [("call" : Str)] θ X s Ex) s := by
  obtain ⟨⟨outer, hfr⟩, Lw, hLw⟩ := hF
  obtain ⟨y, v, e1, V, R⟩ := S.var 0 _ rfl
  cases e1
  have hv : v = .ref f := by cases R; rfl
  subst hv
  have hf : FnAt f s.heap := by
    obtain ⟨_, _, pm, ctv, g⟩ := L
    exact ⟨_, _, _, _, g⟩
  refine wpAny_execs_cons (wpAny_Try_except (wpAny_execs_cons (wpAny_Return_some (wpAny_Call_Name_kw (wpAny_Name (wpAny_var S.eo.kind V (by decide) ?_) (by decide))))))
  refine callWith_any (G := G) (P := FnAt f) rfl (fun h X => keeps_F h X) (spliced_nil ⟨hf, ?_⟩)
  refine wpAny_mono (lam_call O hp hA S L H hco hgen hk hcell hbind p) (fun v s₁ h₁ => ?_) fun v s₁ h₁ => ?_
  · obtain ⟨θ₁, X₁, d, μ₁, e₁, S₁, R₁, q₁, r₁⟩ := h₁
    exact ⟨θ₁, X₁, _, d, μ₁, e₁.toS, S₁, R₁, q₁, r₁⟩
  · obtain ⟨θ₁, X₁, e, c, μ₁, rfl, e₁, S₁, x₁, ⟨w, hw, q₁⟩, r₁⟩ := h₁
    refine exc_note hfr hLw S₁ x₁ fun X₂ h₂ W₂ kp₂ hW₂ gr₂ S₂ x₂ => ?_
    refine exc_flight (s := { s₁ with heap := h₂ }) S₂ x₂ fun h₃ W₃ kp₃ hW₃ S₃ x₃ => ?_
    refine handle (s := { s₁ with heap := h₃ }) O K Hh hw he S₃ x₃ fun t s₄ W₄ kp₄ hW₄ S₄ r₄ => ?_
    have e₂ := ext_loose e₁ kp₂ hW₂ gr₂
    have e₃ := ext_loose e₂ kp₃ hW₃ (.same S₂.own kp₃.1)
    have e₄ := ext_loose e₃ kp₄ hW₄ (.same S₃.own kp₄.1)
    exact ⟨θ₁, X₂, _, .str w, μ₁, e₄.toS, S₄, .str w t, q₁, (r₁.trans .mkH).trans r₄⟩

theorem Held.enter {kd : Str → Prop} (H : Held G A nsl kd cl θ X h ρl) (O : Own G A h θ X) (k : Kp [] [] h h') (hn : ∀ a ∈ envA envw, h.objs.size ≤ a) (hfr : envw.frame = some envw.locals) (hfs : frs (A.deeper envw) = envw :: frs A) : Held G (A.deeper envw) nsl kd cl θ (envA envw ++ X) h' ρl :=
  H.move O k (fun _ q => List.mem_append_right _ q) (fun b hb => (List.mem_append.mp hb).elim (fun q => .inr (hn b q)) .inl) fun a ha hf q => by
    unfold FL at q
    rw [hfs, List.filterMap_cons, hfr] at q
    exact (List.mem_cons.mp q).elim (fun e => absurd (O.lt _ ha) (Nat.not_lt.mpr (e ▸ hn envw.locals (.head _)))) hf

/-- the contract of the def that calls what it is given and turns exceptions into words -/
def FW (G : Gr) (b : Nat) (fw : Addr) (sp : List (Exn × Str)) : Prop :=
  ∀ (A : Around) (θ X : List Addr) (s : Shared) (μ : List MO) (f c' : Addr) (qual : Str) (params : Arguments) (body : Expr) (lsc : Scope) (cl : List (Str × Addr)) (nsl : List Str) (ρl : List (Option D)) (P : PE) (Q : D → List MO → Prop),
    AOk A (b + 2) → Inv G A X s.heap → Own G A s.heap θ X → Muts G s.heap θ X μ → LamAt G s.heap X f c' qual params body lsc cl → Held G A nsl (fun x => lsc.names.lookup x = some .free) cl θ X s.heap ρl → EV G b ⟨lsc, .ref c', qual ++ ".<locals>."⟩ nsl body P →
    lsc.isCoroutine = false → lsc.isGenerator = false → lsc.kind = .function → (∀ x ∈ lsc.names, x.2 ≠ .cell) → (∀ pm cdv ctv, bindArgs (kla_fn "<lambda>" qual params body lsc cl pm cdv ctv) ⟨[], []⟩ = pure []) →
    P ρl μ (retQ μ.length Q) (fun c μ' => ∃ w, Wd sp c w ∧ Q (.str w) (μ'.take μ.length)) →
    codeAny G.M A (.call (.ref fw) ⟨[.ref f], []⟩) (PostC G A θ X s Q (fun _ _ => False)) s

theorem FW_def (O : G.Ok) (K : ExcCls G pa) {fa : Addr} {name qual : Str} {params : Arguments} {h1 : ExceptHandler} {hl : List ExceptHandler} {p1 p2 p3 p4 : Pos} {scope : Scope} {dV kV doc pm cdv ct oc : Value} {an od : Option Addr} {osl : Array (Option Value)} {sp : List (Exn × Str)}
    (ho : G.K.lookup fa = some ⟨oc, od, .func (fnOf name qual params (wordBody (h1 :: hl) p1 p2 p3 p4) scope dV kV doc pm an cdv ct), osl⟩) (hcd : codeIn G.K cdv qual = true)
    (hbind : ∀ (s : Shared) (vals : List Value), G.K.In s.heap → vals.length + ([] : List Value).length = [("call" : Str)].length → BindsTo s (fnOf name qual params (wordBody (h1 :: hl) p1 p2 p3 p4) scope dV kV doc pm an cdv ct) ⟨vals, []⟩ ([("call" : Str)].zip (vals ++ [])))
    (hkind : scope.names.lookup ("call" : Str) = some .local) (hsn : (scope.names.map (·.1)).Nodup) (hk : scope.kind = .function) (hco : scope.isCoroutine = false) (hgen : scope.isGenerator = false) (Hh : Hds G ⟨scope, cdv, qual ++ ".<locals>."⟩ (h1 :: hl) sp) : FW G b fa sp :=
  fun A θ X s μ f c' qual' params' body lsc cl nsl ρl P Q hA I W M L H hp lco lgen lk lcell lbind p => by
  refine codeAny_mono (FR_gen (b := b + 1) (ns := [("call" : Str)]) (names := [("call" : Str)]) (rest := []) (dvs := []) (dds := []) (vals := [.ref f]) (ds := [.val (.ref f)]) (μ := μ) O ho hcd hbind (fun _ _ _ _ _ => .nil) rfl (by decide) (fun n hn => by rw [List.mem_singleton.mp hn]; exact .inl hkind) hsn hk hco hgen
    (Q := retQ μ.length Q) (Ex := fun c μ' => False) (fun envw s₁ hA' he hF hfr hfs S k hn r => ?_) hA I W M (.cons (.val _) .nil) rfl) fun r s' q => postR_C W M q fun d μ' z => z
  refine word_body O K Hh hkind hp hA' he hF S ?_ (H.enter W k hn hfr hfs) lco lgen lk lcell lbind ?_
  · obtain ⟨fX, hrec, pm, ctv, g⟩ := L
    refine ⟨fun q => ?_, codeRec_kp k (fun q => nomatch q) hrec, pm, ctv, k.get g (fun q => nomatch q) fun q => nomatch q⟩
    rcases List.mem_append.mp q with q | q
    · exact absurd (Heap.lt_size g) (Nat.not_lt.mpr (hn f q))
    · exact fX q
  · exact p

end
end Mine
namespace Mine
open PySem PySem.W PySem.Calls PyProof.Rows

section
variable {G : Gr} {b : Nat} {fs : Fs} {ns nsl nsw : List Str} {A : Around} {env envw cenv : Env} {θ X θ' X' θ'' X'' : List Addr} {h h' h'' hs : Heap} {ρ ρ' ρw : List (Option D)} {μ μ' : List MO} {s s' : Shared} {W : List Addr} {pa : Addr}

def tWord (capt : List (Option Nat)) (P : PE) (sp : List (Exn × Str)) : PE := fun ρ μ Q _ =>
  P (capR capt ρ) μ (retQ μ.length Q) (fun c μ' => ∃ w, Wd sp c w ∧ Q (.str w) (μ'.take μ.length))

theorem EV_word (O : G.Ok) {fw c P : Addr} {sp : List (Exn × Str)} {x : Str} {params : Arguments} {lbody : Expr} {lsc : Scope} {lpos np pos : Pos} {capt : List (Option Nat)} {PL : PE} (Fw : FW G b fw sp) (hcode : fs.code = .ref c) (hq : (c, P) ∈ G.tabs) (hqual : G.tq P = fs.qual ++ "<lambda>")
    (hp : ∀ c', EV G b ⟨lsc, .ref c', (fs.qual ++ "<lambda>") ++ ".<locals>."⟩ nsl lbody PL) (hdef : ∀ env, defaultsOf params env = ([], [])) (hlco : lsc.isCoroutine = false) (hlgen : lsc.isGenerator = false) (hlk : lsc.kind = .function) (hlcell : ∀ x ∈ lsc.names, x.2 ≠ .cell)
    (hlbind : ∀ qual cl pm cdv ctv, bindArgs (kla_fn "<lambda>" qual params lbody lsc cl pm cdv ctv) ⟨[], []⟩ = pure []) (hkeys : (lsc.names.map (·.1)).Nodup) (hfree : ∀ n, (n, NameKind.free) ∈ lsc.names → fs.sc.names.lookup n = some .cell) (hcap : capG (fun x => lsc.names.lookup x = some .free) lsc fs.sc ns nsl capt)
    (hx : fs.sc.names.lookup x = some .globalImplicit) (hg : nsIn G.K mainGlobals x = some (some (.ref fw))) (hk : keepIn G.K (.ref fw) = true) (hd : (x == ("__debug__" : Str)) = false) :
    EV G (b + 2) fs ns (.Call (.Name x np) [.Lambda params lbody lsc lpos] [] pos) (tWord capt PL sp) := fun A env θ X s ρ μ Q Ex hA he St p => by
  obtain ⟨_, _, T⟩ := O.T
  have hfr : ∀ n, (n, NameKind.free) ∈ lsc.names → ∃ c, env.cells.lookup n = some c := fun n hn => he.2.2.2.2 n (hfree n hn)
  refine wpAny_Call_Name_kw (Name_function_global St.eo.kind (by unfold Env.kindOf; rw [he.1]; exact hx) (loadGlobal_global (env := env) (by rw [St.eo.glob]; exact T.g.keeps St.inv.base) (mg_of O.X T.g hg) ?_) hd)
  refine callWith_any (G := G) (P := fun h => G.K.In h) rfl (fun h X => keeps_K hk h X) ?_
  show wpAny _ _ (spliced ((false, eval (.Lambda params lbody lsc lpos) env) :: [])) _ _ _
  refine spliced_cons (mk_lam O (hdef env) (closure_pure hfr) (he.2.1.trans hcode) hq (by rw [he.2.2.1]; exact hqual) St fun f c' s₁ L e₁ S₁ r₁ => spliced_nil ⟨O.X.keeps S₁.inv.base, wpAny_call ?_⟩)
  have L' := L
  rw [he.2.2.1] at L'
  refine codeAny_mono (Fw A θ X s₁ μ f c' _ params lbody lsc _ nsl (capR capt ρ) PL Q hA S₁.inv S₁.own S₁.muts L' (held_of S₁ he hkeys hfree hcap) (hp c') hlco hlgen hlk hlcell (hlbind _ _) p) fun res s₂ hr => ?_
  rcases res with w | (w | _ | _ | w)
  · obtain ⟨e, c, μ', X', rfl, kp, I, gr, M, Xc, q, rr⟩ := hr
    exact q.elim
  · exact hr.elim
  · exact hr.elim
  · exact hr.elim
  · obtain ⟨d, μ', kp, I, M, Rv, q, rr⟩ := hr
    have S₂ := S₁.call (θ₁ := θ) (fun _ q => q) kp I (.same S₁.own kp.1) M.1 fun i a m h1 h2 => ⟨fun _ => M.2 i a m h1 h2, fun q => absurd (List.mem_of_getElem? h1) q⟩
    exact ⟨θ, X, d, μ', e₁.trans (.of_kp kp), S₂, Rv.cl, q, r₁.trans rr⟩
end
end Mine
namespace Mine
open PySem PySem.W PySem.Calls PyProof.Rows

section
variable {prog : Program} {w : World} {A : Around} {E : Value → Shared → Prop} {s : Shared} {b : Array UInt8} {t : Tok}

theorem nextOf_bytes_item {it : Addr} {i : Nat} {c : UInt8} {Q : Value → Shared → Prop} (hit : KBw.IsBytesIter s.heap it b t i) (hx : b[i]? = some c)
    (hQ : ∀ h', KBw.IsBytesIter h' it b t (i + 1) → Heap.SameBut it s.heap h' → Q (.int (c.toNat : Int) s.toks) { s with heap := h', toks := s.toks + 1 }) : wpAny (model prog w) A (Builtin.SmallTypes.nextOf (.ref it)) Q E s := by
  obtain ⟨o, ho, hc, hd⟩ := id hit
  unfold Builtin.SmallTypes.nextOf
  refine wpAny_bind (wpAny_callSpecial?_slot (name := PySem.Str.ofString "__next__") (KBw.iter_typeIs hit) KBw.slot_next
    (wpAny_call_entry KBw.slot_next (KBw.iter_typeIs hit) KBw.entry_next ?_ (KBw.args_next _)))
  show wpAny _ _ (field (.ref it) 0 >>= _) _ _ s
  refine wpAny_bind (wpAny_field ho hd (x := .bytes b t) rfl ?_)
  show wpAny _ _ (if (Value.bytes b t == Value.none) = true then _ else _) _ _ s
  rw [if_neg (show ¬ ((Value.bytes b t == Value.none) = true) from Bool.false_ne_true)]
  show wpAny _ _ (field (.ref it) 1 >>= _) _ _ s
  refine wpAny_bind (wpAny_field ho hd (x := .int i 0) rfl ?_)
  refine wpAny_bind (wpAny_of_eq (a := b) rfl ?_)
  simp only [Int.toNat_natCast, hx]
  refine wpAny_bind (wpAny_setField ho hd (by simp) (wpAny_bind (wpAny_mkInt (wpAny_pure ⟨_, rfl, wpAny_pure (hQ _ ?_ (Heap.SameBut.update ..))⟩))))
  exact ⟨_, Heap.get?_update_self _ ho (Obj.isFreed_of_fields (Obj.data_mapFields hd _)), (Obj.cls_mapFields ..).trans hc, by
    rw [Obj.data_mapFields hd]; simp [rawInt]⟩

theorem nextOf_bytes_end {it : Addr} {i : Nat} {Q : Value → Shared → Prop} (hh : A.handled = none) (hit : KBw.IsBytesIter s.heap it b t i) (hx : b[i]? = none)
    (hE : ∀ h' e, Heap.ExtBut it s.heap h' → (∃ o, h'.get? e = some o ∧ o.cls = .type "StopIteration") → E (.ref e) { s with heap := h' }) : wpAny (model prog w) A (Builtin.SmallTypes.nextOf (.ref it)) Q E s := by
  obtain ⟨o, ho, hc, hd⟩ := id hit
  unfold Builtin.SmallTypes.nextOf
  refine wpAny_bind (wpAny_callSpecial?_slot (name := PySem.Str.ofString "__next__") (KBw.iter_typeIs hit) KBw.slot_next
    (wpAny_call_entry KBw.slot_next (KBw.iter_typeIs hit) KBw.entry_next ?_ (KBw.args_next _)))
  show wpAny _ _ (field (.ref it) 0 >>= _) _ _ s
  refine wpAny_bind (wpAny_field ho hd (x := .bytes b t) rfl ?_)
  show wpAny _ _ (if (Value.bytes b t == Value.none) = true then _ else _) _ _ s
  rw [if_neg (show ¬ ((Value.bytes b t == Value.none) = true) from Bool.false_ne_true)]
  show wpAny _ _ (field (.ref it) 1 >>= _) _ _ s
  refine wpAny_bind (wpAny_field ho hd (x := .int i 0) rfl ?_)
  refine wpAny_bind (wpAny_of_eq (a := b) rfl ?_)
  simp only [Int.toNat_natCast, hx]
  refine wpAny_bind (wpAny_rule (wpAny_bind (wpAny_setField ho hd (by simp) ?_)))
  show wpAny _ _ (newExc (.type "StopIteration") [] >>= _) _ _ _
  refine wpAny_bind ?_
  simp only [newExc, newTuple]
  refine wpAny_bind (wpAny_newObj_type ?_ (by size_fits))
  refine wpAny_bind (m := firstArgMember _ _) (wpAny_of_eq (a := Value.none) (by first | rfl | (simp only [firstArgMember]; rfl)) ?_)
  refine wpAny_newObj_type ?_ (by size_fits)
  simp only [raiseNew]
  refine wpAny_bind (wpAny_handled ?_)
  first | rw [show A.in1.handled = none from hh] | rw [hh]
  refine wpAny_bind (wpAny_pure (wpAny_throw ?_))
  exact hE _ _ (((Heap.SameBut.update ..).extBut.push _).push _) ⟨_, Heap.get?_push_size _ rfl, rfl⟩
end

theorem Draws.bytes {prog : Program} {w : World} {A : Around} (hh : A.handled = none) (it : Addr) (b : Array UInt8) (t : Tok) :
    Draws prog w A it [it] b.size (fun i v => ∃ c u, b[i]? = some c ∧ v = .int (c.toNat : Int) u) (fun i h => KBw.IsBytesIter h it b t i) where
  live := fun _ _ st => let ⟨o, ho, _⟩ := st; ⟨o, ho⟩
  frame := fun _ _ _ st hk => let ⟨o, ho, r⟩ := st; ⟨o, hk it (by simp) o ho, r⟩
  item := fun i s Q E hi st hQ => by
    refine nextOf_bytes_item st (c := b[i]) (by simp [hi]) fun h' hit' hs' => ?_
    exact hQ _ h' (s.toks + 1) ⟨_, _, by simp [hi], rfl⟩ hit' hs'
  done := fun s Q E st hE => nextOf_bytes_end hh st (by simp) hE

theorem meets_enumerate_newB (x : Array UInt8) (t : Tok) :
    Meets (Builtin.«enumerate.__new__» ⟨[.type "enumerate", .bytes x t], []⟩) (fun _ R s =>
      R (.ok (.ret (.ref (s.heap.push { cls := .type "bytes_iterator", data := .fields #[.bytes x t, .int 0 0] }).objs.size)))
        { s with heap := (s.heap.push { cls := .type "bytes_iterator", data := .fields #[.bytes x t, .int 0 0] }).push { cls := .type "enumerate", data := .fields #[.none, .bool false, .ref s.heap.objs.size, rawInt 0, .none, .none] } }) :=
  .of_wp fun prog w A R s h => by
    obtain ⟨hp, g, d, tk, os⟩ := s
    have hsub := sub_enumerate
    wp_walk
    refine wpAny_stack_any fun st => wpAny_pure ?_
    split
    · rename_i c _ _ _ _ _
      cases (c == Value.type "enumerate")
      · wp_walk using KBw.pyIter_bytes
        exact ⟨_, rfl, h⟩
      · wp_walk using KBw.pyIter_bytes
        exact ⟨_, rfl, h⟩
    · wp_walk using KBw.pyIter_bytes
      exact ⟨_, rfl, h⟩

section
variable {prog : Program} {w : World} {A : Around} {E : Value → Shared → Prop} {s : Shared}
theorem call_enumerate_bytes {x : Array UInt8} {t : Tok} {Q : Value → Shared → Prop}
    (h : ∀ h', IsEnum h' (s.heap.objs.size + 1) s.heap.objs.size 0 .none → KBw.IsBytesIter h' s.heap.objs.size x t 0 → h'.objs.size = s.heap.objs.size + 2 →
      (∀ b o, s.heap.get? b = some o → h'.get? b = some o) → Q (.ref (s.heap.objs.size + 1)) { s with heap := h' }) :
    wpAny (model prog w) A (call (.type "enumerate") [.bytes x t]) Q E s := by
  refine callType_new F.called_enumerate (by decide) (F.typeCall_enumerate_1 _) (F.newCall_enumerate_1 _) (fun obj => F.args_object_init_2 obj _) F.entry_enumerate_new
    (meets_enumerate_newB x t) ?_
  have hz : (s.heap.push { cls := .type "bytes_iterator", data := .fields #[.bytes x t, .int 0 0] }).objs.size = s.heap.objs.size + 1 := Heap.size_push ..
  show _ ∧ _
  rw [hz]
  have he : IsEnum ((s.heap.push { cls := .type "bytes_iterator", data := .fields #[.bytes x t, .int 0 0] }).push
      { cls := .type "enumerate", data := .fields #[.none, .bool false, .ref s.heap.objs.size, rawInt 0, .none, .none] }) (s.heap.objs.size + 1) s.heap.objs.size 0 .none := by
    have := Heap.get?_push_size (s.heap.push { cls := .type "bytes_iterator", data := .fields #[.bytes x t, .int 0 0] })
      (o := { cls := .type "enumerate", data := .fields #[.none, .bool false, .ref s.heap.objs.size, rawInt 0, .none, .none] }) rfl
    rw [hz] at this; exact this
  refine ⟨⟨_, he, rfl⟩, h _ he ⟨_, Heap.get?_push_of_some _ (Heap.get?_push_size _ rfl), rfl, rfl⟩ (by rw [Heap.size_push, hz]) fun b o y => Heap.get?_push_of_some _ (Heap.get?_push_of_some _ y)⟩
end

section
variable {G : Gr} {b : Nat} {fs : Fs} {ns : List Str} {A : Around} {env : Env} {θ X θ' X' θ'' X'' : List Addr} {h h' h'' hs : Heap} {ρ ρ' : List (Option D)} {μ : List MO} {s s' : Shared} {W : List Addr}

def enumD : Nat → List UInt8 → List D
  | _, [] => []
  | i, c :: r => .tup [.int (i : Int), .int (c.toNat : Int)] :: enumD (i + 1) r
theorem enumD_length : ∀ (l : List UInt8) (k : Nat), (enumD k l).length = l.length
  | [] => fun _ => rfl
  | _ :: r => fun k => congrArg (· + 1) (enumD_length r (k + 1))
theorem enumD_get : ∀ (l : List UInt8) (k i : Nat), (enumD k l)[i]? = (l[i]?).map fun c => D.tup [.int ((k + i : Nat) : Int), .int (c.toNat : Int)]
  | [] => fun _ _ => rfl
  | c :: r => fun k i => by
    cases i with
    | zero => rfl
    | succ i =>
      show (enumD (k + 1) r)[i]? = (r[i]?).map _
      rw [enumD_get r (k + 1) i, Nat.add_right_comm]; rfl
def iEnum (P : PE) : PI := fun ρ μ Q Ex => P ρ μ (fun d μ' => need d.bytes? fun l => Q (enumD 0 l) μ') Ex
theorem it_enum {elts : List Expr} {tk : Nat} {tp : Pos} {I : Addr} {l : List UInt8} {t : Tok} {s₁ : Shared} {h₂ : Heap} (hA : A.handled = none) (hI : s₁.heap.objs.size = I) (hen : IsEnum h₂ (I + 1) I 0 .none) (hit : KBw.IsBytesIter h₂ I l.toArray t 0) (hz : h₂.objs.size = I + 2) (k : Kp [] [] s₁.heap h₂) :
    IterOk G A θ X s₁ { s₁ with heap := h₂ } (.Tuple elts tk tp) (.ref (I + 1)) (enumD 0 l) := by
  intro Q' E' kk
  have Dr : Draws G.prog G.w A.in1 I [I] l.length (fun i v => ∃ c u, l.toArray[i]? = some c ∧ v = .int (c.toNat : Int) u) (fun i h => KBw.IsBytesIter h I l.toArray t i) := by
    have := Draws.bytes (prog := G.prog) (w := G.w) (A := A.in1) hA I l.toArray t
    rwa [List.size_toArray] at this
  have hne : I + 1 ≠ I := Nat.succ_ne_self I
  have hef : I + 1 ∉ [I] := fun q => hne (List.mem_singleton.mp q)
  refine wpAny_pyIter_enum hen ?_
  refine kk (I + 1) { s₁ with heap := h₂ } [I + 1, I] [I + 1, I] (fun i h => (∃ old, IsEnum h (I + 1) I i old) ∧ KBw.IsBytesIter h I l.toArray t i) ⟨fun _ q => q, fun i h h' st hk => ?_, fun i d s F E hd st hF => ?_, fun s Q E st hQ => ?_, fun i s Q E st hQ => ?_⟩ ⟨⟨_, hen⟩, hit⟩ k .mkH (fun c hc => ?_) (fun c hc => .inl hc)
  · obtain ⟨⟨old, h1⟩, h2⟩ := st
    exact ⟨⟨old, hk _ (.head _) _ h1⟩, Dr.frame _ _ _ h2 fun b hb o x => hk b (.tail _ hb) o x⟩
  · obtain ⟨⟨old, h1⟩, h2⟩ := st
    have hlt : i < l.length := enumD_length l 0 ▸ (List.getElem?_eq_some_iff.mp hd).1
    refine wpAny_pyNext_enum_itemD Dr h1 h2 hlt hne hef fun x h' tk hP ho' hs' hT hsz hk' => hF _ _ ?_
    refine wpAny_letOwnedTupleGo_enum (s := { s with heap := h', toks := tk + 1 }) ho' fun h'' he'' hs'' => .mk h'' (tk + 1) ⟨⟨x, by simpa using he''⟩, Dr.frame _ _ _ hs' fun b hb o y => (hs''.2 b fun q => hef (q ▸ hb)).trans y⟩ (fun b o hb y => ?_) ?_ ?_
    · exact (hs''.2 b fun q => hb (q ▸ .head _)).trans (hk' b o (fun q => hb (q ▸ .head _)) (fun q => hb (q ▸ .tail _ (.head _))) y)
    · rw [hs''.1]
      show _ ≤ h'.objs.size
      rw [hsz]; exact Nat.le_succ _
    · obtain ⟨c, u, hc, rfl⟩ := hP
      rw [enumD_get, show l[i]? = some c from List.getElem?_toArray.symm.trans hc, Nat.zero_add] at hd
      cases hd
      exact .new (n := 0) (vs := [.int (i : Int) tk, .int (c.toNat : Int) u]) (Nat.le_refl _) ((hs''.2 _ (Nat.ne_of_gt (Heap.lt_size h1))).trans hT) fun h θ X => Reps.cons (.int _ _) (Reps.cons (.int _ _) Reps.nil)
  · obtain ⟨⟨old, h1⟩, h2⟩ := st
    rw [enumD_length] at h1 h2
    exact wpAny_pyNext_enum_endD Dr h1 h2 fun h' hx => hQ h' s.toks fun b o hb y => hx b o (fun e' => hb (e' ▸ .tail _ (.head _))) y
  · obtain ⟨⟨old, h1⟩, h2⟩ := st
    exact wpAny_pyIter_enum h1 hQ
  · show s₁.heap.objs.size ≤ c ∧ c < h₂.objs.size
    rw [hz, hI]
    rcases List.mem_cons.mp hc with q | hc
    · rw [q]; exact ⟨Nat.le_succ I, Nat.lt_succ_self (I + 1)⟩
    · rw [List.mem_singleton.mp hc]; exact ⟨Nat.le_refl I, Nat.lt_succ_of_lt (Nat.lt_succ_self I)⟩

theorem IT_enum (O : G.Ok) {elts : List Expr} {tk : Nat} {tp : Pos} {e : Expr} {P : PE} {np pos} (he : EV G b fs ns e P) (hn : noStar [e] = true) (hx : fs.sc.names.lookup ("enumerate" : Str) = some .globalImplicit) (hg : nsIn G.K mainGlobals ("enumerate" : Str) = some none) :
    IT G b fs ns (.Tuple elts tk tp) (.Call (.Name "enumerate" np) [e] [] pos) (iEnum P) := fun A env θ X s ρ μ Q Ex hA ho S p => by
  obtain ⟨_, _, T⟩ := O.T
  refine wpAny_Call_Name_kw (Name_function_global S.eo.kind (by unfold Env.kindOf; rw [ho.1]; exact hx) (loadGlobal_builtin (env := env) (by rw [S.eo.glob]; exact T.g.keeps S.inv.base) (mg_none_of O.X T.g hg) (by rw [ho.2.2.2.1]; exact T.b.keeps S.inv.base) ((T.builtins "enumerate" (by decide)).trans boot_enumerate) ?_) (by decide))
  refine callWith_any (G := G) (P := fun _ => True) hn (fun h _ => keeper_plain rfl h) ?_
  show wpAny _ _ (spliced ((false, eval e env) :: [])) _ _ _
  refine spliced_cons (he.go hA ho S p (fun v s₁ θ₁ X₁ d₁ μ₁ e₁ S₁ R₁ q₁ r₁ => spliced_nil ⟨trivial, ?_⟩) fun _ _ q => q)
  refine need.elim q₁ fun l hl q => ?_
  obtain ⟨t, rfl⟩ := R₁.ofBytes hl
  refine call_enumerate_bytes fun h₂ hen hit hz hk => ?_
  exact .mk s₁ θ₁ X₁ (enumD 0 l) μ₁ e₁ S₁ (it_enum hA.1 rfl hen hit hz (kp_keep hk (by rw [hz]; exact Nat.le_add_right _ _))) q r₁
end
end Mine
namespace Mine
open PySem PySem.W PySem.Calls PyProof.Rows

/-! ## choices -/
noncomputable def chk {β : Type} (c : Bool) (k : c = true → Option β) : Option β := Bool.rec (motive := fun b => (b = true → Option β) → Option β) (fun _ => none) (fun k => k rfl) c k
noncomputable def chn {β : Type} (c : Bool) (k : c = false → Option β) : Option β := Bool.rec (motive := fun b => (b = false → Option β) → Option β) (fun k => k rfl) (fun _ => none) c k
noncomputable def gt {α β : Type} (o : Option α) (k : (a : α) → o = some a → Option β) : Option β := Option.rec (motive := fun o => ((a : α) → o = some a → Option β) → Option β) (fun _ => none) (fun a k => k a rfl) o k
noncomputable def use {α β : Type} {p : α → Prop} (o : Option {a : α // p a}) (k : (a : α) → p a → Option β) : Option β := Option.rec none (fun a => Subtype.rec k a) o
noncomputable def dec {β : Type} {p : Prop} (d : Decidable p) (k : p → Option β) : Option β := Decidable.rec (fun _ => none) k d
noncomputable def cas {β : Type} {p : Prop} (d : Decidable p) (k : p → Option β) (z : Option β) : Option β := Decidable.rec (fun _ => z) k d
def val? {α : Type} : (x : Sem α) → Option {a : α // x = pure a}
  | .pure a => some ⟨a, rfl⟩
  | _ => none
noncomputable def idxG (x : Str) : (l : List Str) → Option {i : Nat // l[i]? = some x}
  | [] => none
  | y :: r => cas (decEq y x) (fun h => some ⟨0, congrArg some h⟩) (use (idxG x r) fun i h => some ⟨i + 1, h⟩)

/-! ## the names of an inner block -/
def notG : NameKind → Bool
  | .local | .cell | .free => true
  | _ => false
def nscOf (scope : Scope) : List Str := (scope.names.filter fun y => notG y.2).map (·.1)
noncomputable def captF (names : List (Str × NameKind)) (ns : List Str) (x : Str) : Option Nat := match decEq (names.lookup x) (some .free) with
  | .isTrue _ => use (p := fun i => ns[i]? = some x) (idxG x ns) fun i _ => some i
  | .isFalse _ => none
noncomputable def captOf (scope : Scope) (ns : List Str) : List (Option Nat) := (nscOf scope).map (captF scope.names ns)
theorem captF_get {names : List (Str × NameKind)} {ns : List Str} {x : Str} {i : Nat} (h : captF names ns x = some i) : ns[i]? = some x ∧ names.lookup x = some .free := by
  unfold captF at h
  cases e : decEq (names.lookup x) (some .free) with
  | isTrue g =>
    rw [e] at h
    have h : use (p := fun i => ns[i]? = some x) (idxG x ns) (fun i _ => some i) = some i := h
    cases e2 : idxG x ns with
    | none => rw [e2] at h; exact nomatch h
    | some a =>
      rw [e2] at h
      have h : some a.1 = some i := h
      cases h
      exact ⟨a.2, g⟩
  | isFalse => rw [e] at h; exact nomatch h
theorem capt_get {scope : Scope} {ns : List Str} {j i : Nat} (h : (captOf scope ns)[j]? = some (some i)) : ∃ x, (nscOf scope)[j]? = some x ∧ ns[i]? = some x ∧ scope.names.lookup x = some .free := by
  obtain ⟨x, h1, h2⟩ := Option.map_eq_some_iff.mp (List.getElem?_map.symm.trans h)
  exact ⟨x, h1, captF_get h2⟩
def KeyP (scope sc : Scope) (q : Str → Prop) : Prop := (scope.names.map (·.1)).Nodup ∧ ∀ y ∈ scope.names, y.2 ≠ .cell ∧ (y.2 = .local → scope.names.lookup y.1 = some .local) ∧ (y.2 = .free → sc.names.lookup y.1 = some .cell ∧ q y.1)
theorem KeyP.cap {scope sc : Scope} {q : Str → Prop} (h : KeyP scope sc q) {kd : Str → Prop} (k : ∀ x, scope.names.lookup x = some .free → q x → kd x) (ns : List Str) : capG kd scope sc ns (nscOf scope) (captOf scope ns) := fun j i e => by
  obtain ⟨x, e1, e2, e3⟩ := capt_get e
  have hm := mem_of_lookup e3
  obtain ⟨h1, h2⟩ := (h.2 _ hm).2.2 rfl
  exact ⟨x, e1, e2, hm, h1, k x e3 h2⟩
def CompP (scope sc : Scope) : Prop := KeyP scope sc (fun x => (relabelS scope sc).names.lookup x = some .cell) ∧ scope.kind = .function ∧ ∀ y ∈ (relabelS scope sc).names, y.2 = .cell → (y.1, NameKind.free) ∈ scope.names
section
variable {G : Gr} {b b' : Nat} {fs : Fs} {ns : List Str}
theorem CompP.ok {scope : Scope} (h : CompP scope fs.sc) (ns : List Str) : CompOk fs ns (nscOf scope) scope (captOf scope ns) where
  cell := fun y hy => (h.1.2 y hy).1
  kind := h.2.1
  loc := fun y hy => (h.1.2 y hy).2.1
  keys := h.1.1
  free := fun n hn => ((h.1.2 _ hn).2.2 rfl).1
  cl := fun x hx => h.2.2 _ (mem_of_lookup hx) rfl
  cap := h.1.cap (fun _ _ q => q) ns

/-! ## what the text's form alone decides -/
def E0 (sc : Scope) : Env := { scope := sc, locals := 0, globals := 0, cells := [], qual := "", func := none, code := .none, frame := none, builtins := 0 }
theorem swS_eq {env : Env} {sc : Scope} {ts : List Expr} {e : Expr} (h : env.scope = sc) : swappedStores ts e env = swappedStores ts e (E0 sc) := by
  subst h
  rfl
theorem swW_eq {env : Env} {sc : Scope} {t : Option Expr} {e : Expr} {l : Nat} (h : env.scope = sc) : swapsWith e t l env = swapsWith e t l (E0 sc) := by
  subst h
  rfl
/-- a constructor's number -/
def plainT : Expr → Bool
  | .UnaryOp .. | .BoolOp .. | .IfExp .. | .Compare .. => false
  | _ => true
theorem isTrue_plain : ∀ {x : Expr}, plainT x = true → ∀ env whole, isTrue x env whole = (do let v ← whole; standAt x.pos; holding [v] (truthy v)) := fun {x} h env whole => by
  cases x <;> first | rfl | exact nomatch h
def notSet : Expr → Bool
  | .Set .. => false
  | _ => true
theorem iter_plain {x : Expr} (h : notSet x = true) : ∀ env v, foldedSetIterable x env v = pure v := fun env v => by
  cases x <;> first | rfl | exact nomatch h
def notCut : Expr → Bool
  | .Slice .. => false
  | _ => true
theorem sub_plain {x : Expr} (h : notCut x = true) : ∀ o i, subscripted x false o i = operate [o, i] (getItem o i) := fun o i => by
  cases x <;> first | rfl | exact nomatch h
def isBase : Expr → Bool
  | .Name .. | .Attribute .. => true
  | _ => false
theorem base_plain {x : Expr} {nm : Str} (h : isBase x = true) : ∀ env (w : Sem Value), attributeBase x nm env w = w := fun env w => by
  cases x <;> first | rfl | exact nomatch h
theorem all_plain (env : Env) : ∀ es : List Expr, (plainArgs env es).all (!·.1) = true
  | [] => rfl
  | _ :: es => all_plain env es
theorem meth_eq {x : Expr} {nm : Str} {es : List Expr} {apos pos : Pos} (hb : isBase x = true) (hn : noStar es = true) (hl : decide (es.length + 0 < 30) = true) (hp : (apos.endLine == pos.line) = true) : ∀ env, ∃ pl, eval (.Call (.Attribute x nm apos) es [] pos) env = (do
      let ov ← eval x env
      standAt apos.atName
      let (f, first) ← holding [ov] (getMethod ov nm pl)
      callWith pos f first (backTo pos (starEach es env)) (backToKw pos (keywordEach [] env))) := fun env => ⟨do return (← importBound x env).getD true, by
  show (do let ov ← attributeBase x nm env (eval x env); standAt apos.atName; methodCall x nm apos pos env ov (es.length + 0) (backTo pos (starEach es env)) (backToKw pos (keywordEach [] env))) = _
  rw [base_plain hb]
  have hf : methodCallForm (es.length + 0) (backTo pos (starEach es env)) (backToKw pos (keywordEach [] env)) = true := by
    rw [backTo_plain _ _ _ hn]
    show ((plainArgs env es).all (!·.1) && true && decide (es.length + 0 < 30)) = true
    rw [all_plain, hl]; rfl
  unfold methodCall methodCallPos
  rw [hf, hp]
  rfl⟩

/-! ## operations by what they meet -/
def oSub : T2 := tInt2' (· - ·)
def oMul : T2 := tInt2 mulI cMul
def oMulL : T2 := tInt2 mulI cMulL
def oDiv : T2 := tInt2 divI cDiv
def oMod : T2 := tInt2 modI cMod
def oPow : T2 := tInt2 powI cPow
def oShl : T2 := tInt2 shlI cPow
def oShr : T2 := tInt2 shrI cShr
def oAnd : T2 := tInt2' andI
def oXor : T2 := tInt2' Builtin.bitXor
def oOr : T2 := tInt2' orI
def oAdd : T2 := tInt2' addI
def oGt : T2 := tCmp fun a b => ltI b a
def oLt : T2 := tCmp ltI
def oGe : T2 := tCmp fun a b => leI b a
def oLe : T2 := tCmp leI
def oEq : T2 := tEq false
def oIs : T2 := tIs false
def oIsn : T2 := tIs true
def tPlus : T2 := fun μ d₁ d₂ Q => match d₁ with
  | .int a => tInt2' addI μ (.int a) d₂ Q
  | .bytes a => tCat μ (.bytes a) d₂ Q
  | d₁ => tCatL μ d₁ d₂ Q
theorem op_plus : Op2 G b (binaryOp .Add) tPlus := fun A θ X s μ v₁ v₂ d₁ d₂ Q hA hb hl hM R₁ R₂ p => by
  cases d₁ with
  | int => exact op_add A θ X s μ v₁ v₂ _ _ Q hA hb hl hM R₁ R₂ p
  | bytes => exact op_cat A θ X s μ v₁ v₂ _ _ Q hA hb hl hM R₁ R₂ p
  | _ => exact op_catL A θ X s μ v₁ v₂ _ _ Q hA hb hl hM R₁ R₂ p
def tNeqL (μ : List MO) (d₁ d₂ : D) (Q : D → Prop) : Option Unit → Prop
  | some _ => need (viewL μ d₁) fun a => Q (.bool (notNil a))
  | none => tEq true μ d₁ d₂ Q
def tNeq : T2 := fun μ d₁ d₂ Q => tNeqL μ d₁ d₂ Q d₂.nil?
theorem op_neq : Op2 G b (compareOp .NotEq) tNeq := fun A θ X s μ v₁ v₂ d₁ d₂ Q hA hb hl hM R₁ R₂ p => by
  have p : tNeqL μ d₁ d₂ Q d₂.nil? := p
  cases e : d₂.nil? with
  | some u =>
    rw [e] at p
    cases D.ofNil e
    exact need.elim p fun a h q => ne_nil hA hM R₁ R₂ h ⟨_, .bool _, .refl, q, rfl⟩
  | none =>
    rw [e] at p
    exact op_ne A θ X s μ v₁ v₂ _ _ Q hA hb hl hM R₁ R₂ p
def vNot (P : PE) : PE := fun ρ μ Q Ex => P ρ μ (fun d μ' => need (truthD d) fun c => Q (.bool (!c)) μ') Ex
theorem EV_not {x : Expr} {P : PE} {pos} (hx : EV G b fs ns x P) : EV G b fs ns (.UnaryOp .Not x pos) (vNot P) := fun A env θ X s ρ μ Q Ex hA he S p =>
  wpAny_UnaryOp (hx.go hA he S p (fun v s₁ θ₁ X₁ d₁ μ₁ e₁ S₁ R₁ q₁ r₁ => need.elim q₁ fun c hc q₁ => by
    show wpAny _ _ (holding [v] (do let c ← truthy v; pure (Value.bool (!c)))) _ _ _
    exact wpAny_holding (wpAny_bind (truthy_rep R₁ hc (wpAny_pure ⟨θ₁, X₁, .bool (!c), μ₁, e₁, S₁, .bool _, q₁, r₁⟩)))) fun _ _ q => q)
end
end Mine
namespace Mine
set_option genSizeOf false
set_option genInjectivity false
open PySem PySem.W PySem.Calls PyProof.Rows
noncomputable section

/-- a block: its scope, its qualified name, its names, its code; nl: a list returned is a new one -/
structure Cx where
  sc : Scope
  q : Str
  ns : List Str
  co : Option Addr
  nl : Bool
def Cx.fs (κ : Cx) (c : Value) : Fs := ⟨κ.sc, c, κ.q⟩
def Cx.cd (κ : Cx) (c : Value) : Prop := ∀ a, κ.co = some a → c = .ref a
/-- a transformer that a judgement holds for -/
abbrev Got {β : Type} (κ : Cx) (J : Fs → β → Prop) : Type := Option {P : β // ∀ c, κ.cd c → J (κ.fs c) P}
/-- a def's contract, and what its callers ask -/
structure FK (G : Gr) (b : Nat) (a : Addr) (S : PF) : Prop where
  fv : FV G b a S
  keep : keepIn G.K (.ref a) = true
  fn : isFn G.K (.ref a) = true
/-- what is known of what lies at an address -/
inductive Hit (G : Gr) (a : Addr)
  | fv (b : Nat) (S : PF) (h : FK G b a S)
  | fn (b : Nat) (S : PN) (h : FN G b a S) (k : keepIn G.K (.ref a) = true)
  | fw (sp : List (Exn × Str)) (h : ∀ b, FW G b a sp) (k : keepIn G.K (.ref a) = true)
  | nh (c : Cls) (fI : Addr) (b : Nat) (S : PF) (e : a = G.cA c) (N : NewOk G c fI) (h : FK G b fI S)
  | nf (c : Cls) (fI : Addr) (b : Nat) (S : PF) (e : a = G.cA c) (N : NewOk G c fI) (h : FK G b fI S) (m : ∀ ds μ Q Q' Ex Ex', (∀ d m, Q d m → Q' d m) → (∀ e m, Ex e m → Ex' e m) → S ds μ Q Ex → S ds μ Q' Ex')
  | tab (P : Addr) (q : Str) (h : (a, P) ∈ G.tabs) (e : G.tq P = q ++ "<lambda>")
structure Ent (G : Gr) where
  a : Addr
  hit : Hit G a
def find {G : Gr} (a : Addr) : List (Ent G) → Option (Hit G a)
  | [] => none
  | e :: r => cas (Nat.decEq e.a a) (fun h => some (h ▸ e.hit)) (find a r)
/-- a global name, a method -/
structure Gl (G : Gr) where
  x : Str
  o : Option Value
  h : nsIn G.K mainGlobals x = some o
structure Mt (G : Gr) where
  C : Addr
  x : Str
  a : Addr
  h : findIn G.K (.ref C) x = some (some (.ref a))
  p : plainGet G.K C x = true
structure Lx (G : Gr) where
  O : G.Ok
  cls : ∀ c, ClsOk G c
  isi : ∀ c, IsiOk G c
  fI : Addr
  exc : ∀ c, ExcK G.K (G.eA c) fI
  press : PressFn G fI
  V : (v : Value) → Option {d : D // BRep G v d}
  Φ : List (Ent G)
  gl : List (Gl G)
  mt : List (Mt G)
structure In (G : Gr) where
  E : ∀ (b : Nat) (κ : Cx) (x : Expr), Got κ fun f (P : PE) => EV G b f κ.ns x P
  T : ∀ (b : Nat) (κ : Cx) (x : Expr), Got κ fun f (P : PT) => ET G b f κ.ns x P
  C : ∀ (b : Nat) (κ : Cx) (ops : List CmpOp) (es : List Expr), Got κ fun f (P : PC) => EC G b f κ.ns ops es P
  L : ∀ (b : Nat) (κ : Cx) (nw : Bool) (es : List Expr), Got κ fun f (P : PL) => EL G b f κ.ns es P
  S : ∀ (b : Nat) (κ : Cx) (x : Stmt), Got κ fun f (P : PS) => SV G b f κ.ns x P
  B : ∀ (b : Nat) (κ : Cx) (xs : List Stmt), Got κ fun f (P : PS) => SB G b f κ.ns xs P

def glAt {G : Gr} (x : Str) : List (Gl G) → Option {o : Option Value // nsIn G.K mainGlobals x = some o}
  | [] => none
  | e :: r => cas (decEq e.x x) (fun h => some ⟨e.o, h ▸ e.h⟩) (glAt x r)
def mtAt {G : Gr} (C : Addr) (x : Str) : List (Mt G) → Option {a : Addr // findIn G.K (.ref C) x = some (some (.ref a)) ∧ plainGet G.K C x = true}
  | [] => none
  | e :: r => cas (Nat.decEq e.C C) (fun h => cas (decEq e.x x) (fun h' => some ⟨e.a, by subst h h'; exact ⟨e.h, e.p⟩⟩) (mtAt C x r)) (mtAt C x r)

/-! ## tables -/
section
variable {G : Gr}
def excAt (G : Gr) (a : Addr) : Option {c : Exn // a = G.eA c} :=
  cas (Nat.decEq a (G.eA .short)) (fun h => some ⟨_, h⟩) <| cas (Nat.decEq a (G.eA .header)) (fun h => some ⟨_, h⟩) <| cas (Nat.decEq a (G.eA .block)) (fun h => some ⟨_, h⟩) <|
  cas (Nat.decEq a (G.eA .trailing)) (fun h => some ⟨_, h⟩) <| cas (Nat.decEq a (G.eA .older)) (fun h => some ⟨_, h⟩) <| cas (Nat.decEq a (G.eA .badarg)) (fun h => some ⟨_, h⟩) none
def tyAt (x : Str) : Option {t : Ty // bootBuiltins x = some (.type t.name)} :=
  cas (decEq ("int" : Str) x) (fun h => some ⟨.int, h ▸ rfl⟩) <| cas (decEq ("bool" : Str) x) (fun h => some ⟨.bool, h ▸ rfl⟩) <| cas (decEq ("str" : Str) x) (fun h => some ⟨.str, h ▸ rfl⟩) none
abbrev BiAt (G : Gr) (b : Nat) (x : Str) (p : Value × TN) : Prop := bootBuiltins x = some p.1 ∧ OpN G b p.1 p.2 ∧ notRef p.1 = true
def biE {b : Nat} {x y : Str} {f : Value} {T : TN} (hv : bootBuiltins y = some f) (hT : OpN G b f T) (hf : notRef f = true) (h : y = x) : Option {p : Value × TN // BiAt G b x p} := some ⟨(f, T), h ▸ ⟨hv, hT, hf⟩⟩
def biAt (X : Lx G) (b : Nat) (x : Str) : Option {p : Value × TN // BiAt G b x p} :=
  cas (decEq ("len" : Str) x) (biE rfl op_len rfl) <| cas (decEq ("isinstance" : Str) x) (biE rfl (op_isi X.O X.isi) rfl) <| cas (decEq ("int" : Str) x) (biE rfl op_intB rfl) <|
  cas (decEq ("bytes" : Str) x) (biE rfl op_bytes rfl) <| cas (decEq ("sum" : Str) x) (biE rfl op_sum rfl) <| cas (decEq ("min" : Str) x) (biE rfl op_min rfl) none
def isCon : Expr → Bool
  | .Constant .. => true
  | _ => false
def opB (x : Expr) : (o : Operator) → Option {T : T2 // ∀ b, Op2 G b (binaryOp o) T}
  | .Add => some ⟨tPlus, fun _ => op_plus⟩
  | .Sub => some ⟨oSub, fun _ => op_sub⟩
  | .Mult => Bool.rec (some ⟨oMul, fun _ => op_mul⟩) (some ⟨oMulL, fun _ => op_mulL⟩) (isCon x)
  | .FloorDiv => some ⟨oDiv, fun _ => op_div⟩
  | .Mod => some ⟨oMod, fun _ => op_mod⟩
  | .Pow => some ⟨oPow, fun _ => op_pow⟩
  | .LShift => some ⟨oShl, fun _ => op_shl⟩
  | .RShift => some ⟨oShr, fun _ => op_shr⟩
  | .BitAnd => some ⟨oAnd, fun _ => op_and⟩
  | .BitXor => some ⟨oXor, fun _ => op_xor⟩
  | _ => none
def opI : (o : Operator) → Option {T : T2 // ∀ b, Op2 G b (inplaceOp o) T}
  | .Add => some ⟨oAdd, fun _ => op_iadd⟩
  | .BitOr => some ⟨oOr, fun _ => op_ior⟩
  | _ => none
def opC : (o : CmpOp) → Option {T : T2 // ∀ b, Op2 G b (compareOp o) T}
  | .Gt => some ⟨oGt, fun _ => op_gt⟩
  | .Lt => some ⟨oLt, fun _ => op_lt⟩
  | .GtE => some ⟨oGe, fun _ => op_ge⟩
  | .LtE => some ⟨oLe, fun _ => op_le⟩
  | .Eq => some ⟨oEq, fun _ => op_eq⟩
  | .NotEq => some ⟨tNeq, fun _ => op_neq⟩
  | .Is => some ⟨oIs, fun _ => op_is⟩
  | .IsNot => some ⟨oIsn, fun _ => op_isNot⟩
  | .In => some ⟨tIn, fun _ => op_in⟩
  | _ => none
end

/-! ## names -/
section
variable {G : Gr} (X : Lx G) (r : In G) (b : Nat) (κ : Cx)
abbrev isGl (κ : Cx) (x : Str) : Prop := κ.sc.names.lookup x = some .globalImplicit
def onGl {β : Type} (x : Str) (k : isGl κ x → (x == ("__debug__" : Str)) = false → (o : Option Value) → nsIn G.K mainGlobals x = some o → Option β) : Option β :=
  dec (decEq (κ.sc.names.lookup x) (some .globalImplicit)) fun hx => chn (x == ("__debug__" : Str)) fun hd => use (glAt x X.gl) fun o hn => k hx hd o hn
def iName (x : Str) (pos : Pos) : Got κ fun f (P : PE) => EV G b f κ.ns (.Name x pos) P := match idxG x κ.ns with
  | some ⟨i, hi⟩ => chn (x == ("__debug__" : Str)) fun hd => chn (x == ("__classdict__" : Str)) fun hc => some ⟨tVar i, fun _ _ => EV_var i hi hd hc⟩
  | none => onGl X κ x fun hx hd o hn => match o, hn with
    | some v, hn => use (X.V v) fun d hr => some ⟨tD d, fun _ _ => EV_glob X.O hx hn hr hd⟩
    | none, hn => dec (inferInstanceAs (Decidable (x ≠ ("__name__" : Str)))) fun hm => use (tyAt x) fun t ht => some ⟨tD (.ty t), fun _ _ => EV_bi X.O hx hn ht hm .ty hd⟩
def iConst (c : Const) (k : Nat) (pos : Pos) : Got κ fun f (P : PE) => EV G b f κ.ns (.Constant c k pos) P := match c with
  | .int i => some ⟨_, fun _ _ => EV_int⟩
  | .none => some ⟨_, fun _ _ => EV_none⟩
  | .bool c => some ⟨_, fun _ _ => EV_bool⟩
  | .str x => some ⟨_, fun _ _ => EV_str⟩
  | .bytes x => some ⟨_, fun _ _ => EV_bytes⟩
  | _ => none
/-- a fresh list, where asked for -/
def iNew (nw : Bool) (x : Expr) : Got κ fun f (P : PE) => EV G b f κ.ns x P := match nw, x with
  | true, .List es pos => chk (noStar es) fun hn => use (r.L b κ false es) fun L hL => some ⟨tNewL L, fun c h => EV_newL (hL c h) hn⟩
  | _, x => r.E b κ x
def iL (nw : Bool) (es : List Expr) : Got κ fun f (P : PL) => EL G b f κ.ns es P := match es with
  | [] => some ⟨l0, fun _ _ => EL_nil⟩
  | x :: es => use (iNew r b κ nw x) fun P hP => use (r.L b κ nw es) fun R hR => some ⟨l1 P R, fun c h => EL_cons (hP c h) (hR c h)⟩
def iC (ops : List CmpOp) (es : List Expr) : Got κ fun f (P : PC) => EC G b f κ.ns ops es P := match ops, es with
  | o :: ops, y :: es => use (opC (G := G) o) fun T hT => use (r.E b κ y) fun R hR => match ops, es with
    | [], [] => some ⟨c1 R T, fun c h => EC_last (hR c h) (hT b)⟩
    | o' :: ops, y' :: es => use (r.C b κ (o' :: ops) (y' :: es)) fun C hC => some ⟨c2 R T C, fun c h => EC_link (hR c h) (hT b) (hC c h)⟩
    | _, _ => none
  | _, _ => none
def iO (x : Option Expr) : Got κ fun f (P : PE) => EO G b f κ.ns x P := match x with
  | none => some ⟨_, fun _ _ => EO_none⟩
  | some x => use (r.E b κ x) fun P hP => some ⟨P, fun c h => EO_some (hP c h)⟩

/-! ## places of names -/
def soV (x : Str) : Option {i : Nat // ∀ c, StoreG (KV G) G (κ.fs c) κ.ns i x} := dec (inferInstanceAs (Decidable κ.ns.Nodup)) fun hd => use (idxG x κ.ns) fun i hi => gt (κ.sc.names.lookup x) fun k hk => match k, hk with
  | .local, hk => some ⟨i, fun c => StoreOk.loc (fs := κ.fs c) hd hi hk⟩
  | .cell, hk => some ⟨i, fun c => StoreOk.cel (fs := κ.fs c) hd hi hk⟩
  | _, _ => none
def soL (x : Str) : Option {i : Nat // ∀ c, StoreG KL G (κ.fs c) κ.ns i x} := dec (inferInstanceAs (Decidable κ.ns.Nodup)) fun hd => use (idxG x κ.ns) fun i hi => dec (decEq (κ.sc.names.lookup x) (some .local)) fun hk => some ⟨i, fun c => StoreL.loc (fs := κ.fs c) hd hi hk⟩
section
variable {K : Keep} (so : ∀ x, Option {i : Nat // ∀ c, StoreG K G (κ.fs c) κ.ns i x})
def iNm : (es : List Expr) → Option {is : List Nat // ∀ c, NamesG K G (κ.fs c) κ.ns es is}
  | [] => some ⟨[], fun _ => trivial⟩
  | e :: r => match e with
    | .Name x p => use (so x) fun i hi => use (iNm r) fun is his => some ⟨i :: is, fun c => ⟨⟨x, p, rfl, hi c⟩, his c⟩⟩
    | _ => none
def iTg (ok : KeepOk G K) (t : Expr) : Option {T : PG // ∀ c, TG K G b (κ.fs c) κ.ns t T} := match t with
  | .Name x p => use (so x) fun i hi => some ⟨gN i, fun c => TG_name (hi c)⟩
  | .Tuple es k p => use (iNm κ so es) fun is his => some ⟨gT is, fun c => TG_tup ok (his c)⟩
  | _ => none
end
def iNb : (xs : List Str) → Option {is : List Nat // ∀ c, NamesB G (κ.fs c) κ.ns xs is}
  | [] => some ⟨[], fun _ => trivial⟩
  | x :: r => use (soV (G := G) κ x) fun i hi => use (iNb r) fun is his => some ⟨i :: is, fun c => ⟨hi c, his c⟩⟩
end
end
end Mine
namespace Mine
set_option genSizeOf false
set_option genInjectivity false
open PySem PySem.W PySem.Calls PyProof.Rows
noncomputable section


/-! ## calls -/
section
variable {G : Gr} (X : Lx G) (r : In G) (b : Nat) (κ : Cx)
def clsQ (q : Str) : Cls := if q.cps[0]? == some 79 then .octets else if q.cps[0]? == some 66 then .bhead else if q.cps[5]? == some 72 then .fheader else .fspan
/-- the class of what stands before a dot -/
def clsOf (q : Str) : Expr → Option Cls
  | .Name x _ => if x == ("self" : Str) then some (clsQ q) else if x == ("head" : Str) then some .bhead else if x == ("header" : Str) then some .fheader else if x == ("span" : Str) then some .fspan else some .octets
  | .Attribute _ _ _ => some .fheader
  | _ => none
def iAttr (x : Expr) (nm : Str) (pos : Pos) : Got κ fun f (P : PE) => EV G b f κ.ns (.Attribute x nm pos) P := match clsOf κ.q x with
  | some c => use (idxG nm c.names) fun i hi => chk (isBase x) fun hb => use (r.E b κ x) fun P hP => some ⟨tAttr c i P, fun v h => EV_attr X.O (X.cls c) i (hP v h) hi (base_plain hb)⟩
  | none => none
def iMeth (x : Expr) (nm : Str) (apos : Pos) (es : List Expr) (pos : Pos) : Got κ fun f (P : PE) => EV G b f κ.ns (.Call (.Attribute x nm apos) es [] pos) P :=
  chk (isBase x) fun hb => chk (noStar es) fun hn => chk (decide (es.length + 0 < 30)) fun hl => chk (apos.endLine == pos.line) fun hp => use (r.E b κ x) fun P hP => cas (decEq ("append" : Str) nm)
    (fun e => match es, hn, hl with
      | [y], hn, hl => use (r.E b κ y) fun R hR => some ⟨tApp P R, fun v h => e ▸ EV_app (hP v h) (hR v h) hn (meth_eq hb hn hl hp)⟩
      | _, _, _ => none)
    (match clsOf κ.q x with
      | some c => use (mtAt (G.cA c) nm X.mt) fun a hf => match find a X.Φ with
        | some (.fv b' S hS) => dec (inferInstanceAs (Decidable (nm ∉ c.names))) fun hm => dec (Nat.decLe b' b) fun hle => use (r.L b κ false es) fun L hL =>
          some ⟨tMeth c P L S, fun v h => EV_meth X.O (hS.fv.le hle) (hP v h) (hL v h) hn hf.2 hf.1 hS.fn hS.keep hm (meth_eq hb hn hl hp)⟩
        | _ => none
      | none => none)
def noArgs : Arguments → Bool
  | ⟨[], [], none, [], [], none, []⟩ => true
  | _ => false
theorem noArgs_eq : ∀ {p : Arguments}, noArgs p = true → p = ⟨[], [], none, [], [], none, []⟩
  | ⟨[], [], none, [], [], none, []⟩, _ => rfl
theorem lam_def {ps : Arguments} (h : noArgs ps = true) (env : Env) : defaultsOf ps env = ([], []) := by rw [noArgs_eq h]; rfl
theorem lam_bind {ps : Arguments} (h : noArgs ps = true) {lb : Expr} {ls : Scope} (qual : Str) (cl : List (Str × Addr)) (pm cdv ctv : Value) : bindArgs (kla_fn "<lambda>" qual ps lb ls cl pm cdv ctv) ⟨[], []⟩ = pure [] := by rw [noArgs_eq h]; rfl
def iWord {x : Str} {a : Addr} {sp : List (Exn × Str)} (hF : ∀ b, FW G b a sp) (hkp : keepIn G.K (.ref a) = true) (hx : isGl κ x) (hd : (x == ("__debug__" : Str)) = false) (hg : nsIn G.K mainGlobals x = some (some (.ref a))) (es : List Expr) (np pos : Pos) : Got κ fun f (P : PE) => EV G b f κ.ns (.Call (.Name x np) es [] pos) P := match es with
  | e :: r' => match e, r' with
    | .Lambda ps lb ls lp, [] => gt κ.co fun a' ha => match find a' X.Φ with
      | some (.tab P q hq e) => dec (decEq (q ++ ("<lambda>" : Str)) (κ.q ++ ("<lambda>" : Str))) fun hqq => dec (p := KeyP ls κ.sc fun _ => True) (inferInstanceAs (Decidable (_ ∧ _))) fun hK => chn ls.isCoroutine fun hco => chn ls.isGenerator fun hgen => dec (decEq ls.kind .function) fun hk => chk (noArgs ps) fun hps => 
        dec (Nat.decLe (b - 2 + 2) b) fun hle => use (r.E (b - 2) ⟨ls, (κ.q ++ "<lambda>") ++ ".<locals>.", nscOf ls, none, false⟩ lb) fun PL hPL =>
        some ⟨tWord (captOf ls κ.ns) PL sp, fun v h => (EV_word (fs := κ.fs v) X.O (hF _) (h a' ha) hq (e.trans hqq) (fun c' => hPL (.ref c') fun _ q => nomatch q) (lam_def hps) hco hgen hk (fun y hy => (hK.2 y hy).1) (lam_bind hps) hK.1 (fun n hn => ((hK.2 _ hn).2.2 rfl).1) (hK.cap (fun _ h _ => h) κ.ns) hx hg hkp hd).le hle⟩
      | _ => none
    | _, _ => none
  | [] => none
def iCallN (x : Str) (np : Pos) (es : List Expr) (pos : Pos) : Got κ fun f (P : PE) => EV G b f κ.ns (.Call (.Name x np) es [] pos) P :=
  chk (noStar es) fun hn => onGl X κ x fun hx hd o hg => match o, hg with
    | some (.ref a), hg => match find a X.Φ with
      | some (.fv b' S hS) => dec (Nat.decLe b' b) fun hle => use (r.L b κ false es) fun L hL => some ⟨tCall L S, fun v h => EV_call X.O (hS.fv.le hle) (hL v h) hn hx hg hS.keep hd⟩
      | some (.fn b' S hS hk) => dec (Nat.decLe b' b) fun hle => use (r.L b' κ false es) fun L hL => some ⟨tCallN L S, fun v h => (EV_callN X.O hS (hL v h) hn hx hg hk hd).le hle⟩
      | some (.nh c fI b' S e N hS) => dec (Nat.decLe (b' + 1) b) fun hle => use (r.L (b' + 1) κ false es) fun L hL => some ⟨tNewH c L S, fun v h => (EV_newH X.O N hS.fv (hL v h) hn hx (e ▸ hg) hd).le hle⟩
      | some (.nf c fI b' S e N hS m) => dec (Nat.decLe (b' + 1) b) fun hle => use (r.L (b' + 1) κ false es) fun L hL => some ⟨tNewF c L S, fun v h => (EV_newF X.O N hS.fv (hL v h) hn hx (e ▸ hg) hd m).le hle⟩
      | some (.fw sp hF hk) => iWord X r b κ hF hk hx hd hg es np pos
      | _ => none
    | none, hg => dec (inferInstanceAs (Decidable (x ≠ ("__name__" : Str)))) fun hm => use (biAt X b x) fun p hp => use (r.L b κ false es) fun L hL => some ⟨tBi L p.2, fun v h => EV_bcall X.O hp.2.1 (hL v h) hn hx hg hp.1 hm hp.2.2 hd⟩
    | _, _ => none
def iCall (f : Expr) (es : List Expr) (kws : List Keyword) (pos : Pos) : Got κ fun fs (P : PE) => EV G b fs κ.ns (.Call f es kws pos) P := match kws with
  | [] => match f with
    | .Name x np => iCallN X r b κ x np es pos
    | .Attribute x nm apos => iMeth X r b κ x nm apos es pos
    | _ => none
  | _ :: _ => none
end
end
end Mine
namespace Mine
set_option genSizeOf false
set_option genInjectivity false
open PySem PySem.W PySem.Calls PyProof.Rows
noncomputable section


/-! ## expressions -/
section
variable {G : Gr} (X : Lx G) (r : In G) (b : Nat) (κ : Cx)
def iUn (op : UnaryOp) (x : Expr) (pos : Pos) : Got κ fun f (P : PE) => EV G b f κ.ns (.UnaryOp op x pos) P := match op with
  | .Not => use (r.E b κ x) fun P hP => some ⟨vNot P, fun c h => EV_not (hP c h)⟩
  | .USub => match x with
    | .Constant k _ _ => match k with
      | .int i => some ⟨_, fun _ _ => EV_neg EV_int⟩
      | _ => none
    | _ => none
  | _ => none
def iBool (op : BoolOp) (xs : List Expr) (pos : Pos) : Got κ fun f (P : PE) => EV G b f κ.ns (.BoolOp op xs pos) P := match xs with
  | [] => none
  | x :: r' => use (r.E b κ x) fun P hP => match r' with
    | [] => some ⟨P, fun c h => EV_one (hP c h)⟩
    | y :: r' => use (r.E b κ (.BoolOp op (y :: r') pos)) fun R hR => match op, hR with
      | .And, hR => some ⟨vAnd P R, fun c h => EV_and (hP c h) (hR c h)⟩
      | .Or, hR => some ⟨vOr P R, fun c h => EV_or (hP c h) (hR c h)⟩
def iCmp (x : Expr) (ops : List CmpOp) (ys : List Expr) (pos : Pos) : Got κ fun f (P : PE) => EV G b f κ.ns (.Compare x ops ys pos) P := match ops, ys with
  | [o], [y] => use (opC (G := G) o) fun T hT => chn (behindInMarks o y) fun hb => use (r.E b κ x) fun P hP => use (r.E b κ y) fun R hR => some ⟨t2 P R T, fun c h => EV_cmp (hP c h) (hR c h) (hT b) hb⟩
  | _, _ => none
def iSub (x y : Expr) (pos : Pos) : Got κ fun f (P : PE) => EV G b f κ.ns (.Subscript x y pos) P := use (r.E b κ x) fun P hP => match y with
  | .Slice lo hi st p => match st with
    | none => use (iO r b κ lo) fun L hL => use (iO r b κ hi) fun U hU => some ⟨tCut P L U, fun c h => EV_cut (hP c h) (hL c h) (hU c h)⟩
    | some _ => none
  | y => chk (notCut y) fun hy => use (r.E b κ y) fun R hR => some ⟨t2 P R tItem, fun c h => EV_item (hP c h) (hR c h) (sub_plain hy)⟩

/-! ## what a loop runs over -/
def iList' (t x : Expr) : Got κ fun f (P : PI) => IT G b f κ.ns t x P := use (r.E b κ x) fun P hP => some ⟨iList P, fun c h => IT_list (hP c h)⟩
def iRng {nm : Str} (np : Pos) (e : Expr) (pos : Pos) (hx : isGl κ nm) (hg : nsIn G.K mainGlobals nm = some none) : (t : Expr) → Got κ fun f (P : PI) => IT G b f κ.ns t (.Call (.Name nm np) [e] [] pos) P :=
  fun t => chk (noStar [e]) fun hn => use (r.E b κ e) fun P hP => cas (decEq nm ("range" : Str)) (fun h => some ⟨iRange P, fun c hc => by subst h; exact IT_range X.O (hP c hc) hn hx hg rfl⟩)
    (dec (decEq nm ("enumerate" : Str)) fun h => match t with
      | .Tuple es k p => some ⟨iEnum P, fun c hc => by subst h; exact IT_enum X.O (hP c hc) hn hx hg⟩
      | _ => none)
def iIt (t x : Expr) : Got κ fun f (P : PI) => IT G b f κ.ns t x P := match x with
  | .Call f es kws pos => match f, es, kws with
    | .Name nm np, [e], [] => onGl X κ nm fun hx hd o hg => match o, hg with
      | none, hg => iRng X r b κ np e pos hx hg t
      | some _, _ => iList' r b κ t _
    | _, _, _ => iList' r b κ t _
  | x => iList' r b κ t x
def iIfs (xs : List Expr) : Got κ fun f (P : PT) => CT G b f κ.ns xs P := match xs with
  | [] => some ⟨_, fun _ _ => CT_nil⟩
  | x :: r' => match r' with
    | [] => use (r.T b κ x) fun P hP => some ⟨P, fun c h => CT_one (hP c h)⟩
    | _ :: _ => none
def inner (κ : Cx) (sc : Scope) : Cx := ⟨relabelS sc κ.sc, κ.q, nscOf sc, κ.co, false⟩
def onComp {β : Type} (elt : Expr) (sc : Scope) {J : List Comprehension → β → Prop} (k : ∀ {t i : Expr} {ifs : List Expr} {I : PI} {T : PG} {C : PT} {P : PE}, (∀ c, κ.cd c → IT G b (κ.fs c) κ.ns t i I) → (∀ c, κ.cd c → TL G b (cFs (κ.fs c) sc) (nscOf sc) t T) →
    (∀ c, κ.cd c → CT G b (cFs (κ.fs c) sc) (nscOf sc) ifs C) → (∀ c, κ.cd c → EV G b (cFs (κ.fs c) sc) (nscOf sc) elt P) → (∀ env v, foldedSetIterable i env v = pure v) → CompP sc κ.sc → Option {P : β // J [⟨t, i, ifs, 0⟩] P}) : (gens : List Comprehension) → Option {P : β // J gens P}
  | [⟨t, i, ifs, .ofNat 0⟩] => dec (p := CompP sc κ.sc) (@instDecidableAnd _ _ (inferInstanceAs (Decidable (_ ∧ _))) (inferInstanceAs (Decidable (_ ∧ _)))) fun ok => chk (notSet i) fun hs => use (iIt X r b κ t i) fun I hI => use (iTg b (inner κ sc) (soL (inner κ sc)) KL.ok t) fun T hT => use (iIfs r b (inner κ sc) ifs) fun C hC => use (r.E b (inner κ sc) elt) fun P hP =>
    k hI (fun c _ => hT c) hC hP (iter_plain hs) ok
  | _ => none
def iE (x : Expr) : Got κ fun f (P : PE) => EV G b f κ.ns x P := match x with
  | .Constant c k pos => iConst b κ c k pos
  | .Name x pos => iName X b κ x pos
  | .BinOp x op y pos => use (opB (G := G) x op) fun T hT => use (r.E b κ x) fun P hP => use (r.E b κ y) fun R hR => some ⟨t2 P R T, fun c h => EV_bin (hP c h) (hR c h) (hT b)⟩
  | .UnaryOp op x pos => iUn r b κ op x pos
  | .BoolOp op xs pos => iBool r b κ op xs pos
  | .IfExp t x y pos => use (r.T b κ t) fun T hT => use (r.E b κ x) fun P hP => use (r.E b κ y) fun R hR => some ⟨tIf T P R, fun c h => EV_if (hT c h) (hP c h) (hR c h)⟩
  | .Compare x ops ys pos => iCmp r b κ x ops ys pos
  | .Subscript x y pos => iSub r b κ x y pos
  | .Tuple es k pos => chk (noStar es) fun hn => use (r.L b κ false es) fun L hL => some ⟨tTup L, fun c h => EV_tup (hL c h) hn⟩
  | .List es pos => chk (noStar es) fun hn => use (r.L b κ false es) fun L hL => some ⟨tList L, fun c h => EV_list (hL c h) hn⟩
  | .Attribute x nm pos => iAttr X r b κ x nm pos
  | .Call f es kws pos => iCall X r b κ f es kws pos
  | .ListComp elt gens sc pos => onComp X r b κ elt sc (J := fun gens (P : PE) => ∀ c, κ.cd c → EV G b (κ.fs c) κ.ns (.ListComp elt gens sc pos) P) (fun hI hT hC hP hs ok => some ⟨_, fun c h => EV_comp (hI c h) (hT c h) (hC c h) (hP c h) hs (CompP.ok (fs := κ.fs c) ok κ.ns)⟩) gens
  | _ => none
def iPlain (x : Expr) : Got κ fun f (P : PT) => ET G b f κ.ns x P := chk (plainT x) fun hx => use (r.E b κ x) fun P hP => some ⟨tTrue P, fun c h => ET_plain (hP c h) (isTrue_plain hx)⟩
def iTB (op : BoolOp) (xs : List Expr) (pos : Pos) : Got κ fun f (P : PT) => ET G b f κ.ns (.BoolOp op xs pos) P := match op, xs with
  | .And, [] => some ⟨_, fun _ _ => ET_and0⟩
  | .Or, [] => some ⟨_, fun _ _ => ET_or0⟩
  | .And, x :: r' => use (r.T b κ x) fun P hP => use (r.T b κ (.BoolOp .And r' pos)) fun R hR => some ⟨tAnd P R, fun c h => ET_and (hP c h) (hR c h)⟩
  | .Or, x :: r' => use (r.T b κ x) fun P hP => use (r.T b κ (.BoolOp .Or r' pos)) fun R hR => some ⟨tOr P R, fun c h => ET_or (hP c h) (hR c h)⟩
def iTC (x : Expr) (ops : List CmpOp) (ys : List Expr) (pos : Pos) : Got κ fun f (P : PT) => ET G b f κ.ns (.Compare x ops ys pos) P := use (r.E b κ x) fun P hP => match ops, ys with
  | [o], [y] => use (opC (G := G) o) fun T hT => chn (behindInMarks o y) fun hb => use (r.E b κ y) fun R hR => some ⟨tTrue (t2 P R T), fun c h => ET_cmp (hP c h) (hR c h) (hT b) hb⟩
  | o₁ :: o₂ :: ops, y₁ :: y₂ :: ys => chn (lastMarks (o₁ :: o₂ :: ops) (y₁ :: y₂ :: ys)) fun hm => use (r.C b κ (o₁ :: o₂ :: ops) (y₁ :: y₂ :: ys)) fun C hC => some ⟨tChain P C, fun c h => ET_chain (hP c h) (hC c h) hm⟩
  | _, _ => none
def iT (x : Expr) : Got κ fun f (P : PT) => ET G b f κ.ns x P := match x with
  | .UnaryOp op x pos => match op with
    | .Not => use (r.T b κ x) fun P hP => some ⟨tNot P, fun c h => ET_not (hP c h)⟩
    | _ => none
  | .BoolOp op xs pos => iTB r b κ op xs pos
  | .Compare x ops ys pos => iTC r b κ x ops ys pos
  | x => iPlain r b κ x

/-! ## statements -/
theorem SV.le {x : Stmt} {fs : Fs} {ns : List Str} {P : PS} {b b' : Nat} (H : SV G b' fs ns x P) (l : b' ≤ b) : SV G b fs ns x P := fun A env θ X s ρ μ Nx Rt Ex hA => H A env θ X s ρ μ Nx Rt Ex (hA.le l)
def onSw {β : Type} (e : Expr) (t : Option Expr) (l : Nat) (kf : (∀ c env, (κ.fs c).ok env → swapsWith e t l env = pure false) → Option β) (kt : (∀ c env, (κ.fs c).ok env → swapsWith e t l env = pure true) → Option β) : Option β :=
  use (val? (swapsWith e t l (E0 κ.sc))) fun v hv => match v, hv with
  | false, hv => kf fun c env he => (swW_eq he.1).trans hv
  | true, hv => kt fun c env he => (swW_eq he.1).trans hv
def iSetT (es : List Expr) (k : Nat) (tp : Pos) (e : Expr) (pos : Pos) (hs : ∀ c env, (κ.fs c).ok env → swapsWith e (some (.Tuple es k tp)) pos.line env = pure false) : Got κ fun f (P : PS) => SV G b f κ.ns (.Assign [.Tuple es k tp] e pos) P :=
  use (match e with
    | .Tuple es k pos => chk (noStar es) fun hn => use (r.L b κ true es) fun L hL => some ⟨tTup L, fun c h => EV_tup (hL c h) hn⟩
    | e => r.E b κ e : Got κ fun f (P : PE) => EV G b f κ.ns e P) fun P hP => use (val? (swappedStores [.Tuple es k tp] e (E0 κ.sc))) fun o ho => match o, ho with
  | none, ho => use (iNm κ (soV (G := G) κ) es) fun is N => some ⟨wTg (gT is) P, fun c h => SV_tup (N c) (hP c h) (hs c) fun env he => (swS_eq he.1).trans ho⟩
  | some names, ho => use (iNb (G := G) κ names.reverse) fun is N => some ⟨wTg (gTS is) P, fun c h => SV_tupS (N c) (hP c h) (hs c) fun env he => (swS_eq he.1).trans ho⟩
def iSet (t e : Expr) (pos : Pos) : Got κ fun f (P : PS) => SV G b f κ.ns (.Assign [t] e pos) P := onSw κ e (some t) pos.line
  (fun hs => match t, hs with
    | .Name x p, hs => use (soV (G := G) κ x) fun i hi => use (iNew r b κ true e) fun P hP => some ⟨wSet i P, fun c h => SV_set (hi c) (hP c h) (hs c)⟩
    | .Tuple es k tp, hs => iSetT r b κ es k tp e pos hs
    | .Attribute x nm p, hs => match clsOf κ.q x with
      | some c => use (idxG nm c.names) fun i hi => use (r.E b κ e) fun P hP => use (r.E b κ x) fun R hR => some ⟨wAttr c i P R, fun v h => SV_attr X.O (X.cls c) (hP v h) (hR v h) hi (hs v)⟩
      | none => none
    | .Subscript x i p, hs => use (r.E b κ e) fun P hP => use (r.E b κ x) fun R hR => use (r.E b κ i) fun I hI => some ⟨wItem P R I, fun v h => SV_item (hP v h) (hR v h) (hI v h) (hs v)⟩
    | _, _ => none)
  (fun hs => match t, hs with
    | .Name x p, hs => use (soV (G := G) κ x) fun i hi => match e, hs with
      | .ListComp elt gens sc q, hs => onComp X r b κ elt sc (J := fun gens (P : PS) => (∀ c env, (κ.fs c).ok env → swapsWith (.ListComp elt gens sc q) (some (.Name x p)) pos.line env = pure true) → ∀ c, κ.cd c → SV G b (κ.fs c) κ.ns (.Assign [.Name x p] (.ListComp elt gens sc q) pos) P)
          (fun hI hT hC hP hs' ok => some ⟨_, fun hs c h => SV_comp (hI c h) (hT c h) (hC c h) (hP c h) hs' (CompP.ok (fs := κ.fs c) ok κ.ns) (hi c) (hs c)⟩) gens |>.map fun P => ⟨P.1, P.2 hs⟩
      | _, _ => none
    | _, _ => none)
def iAug (t : Expr) (op : Operator) (e : Expr) (pos : Pos) : Got κ fun f (P : PS) => SV G b f κ.ns (.AugAssign t op e pos) P := use (opI (G := G) op) fun T hT => use (r.E b κ e) fun P hP => match t with
  | .Name x p => use (soV (G := G) κ x) fun i hi => dec (decEq κ.ns[i]? (some x)) fun hx => chn (x == ("__classdict__" : Str)) fun hc => some ⟨wAug i P T, fun c h => SV_aug (hi c) hx (hP c h) (hT b) hc⟩
  | .Attribute x nm p => match clsOf κ.q x with
    | some c => use (idxG nm c.names) fun i hi => use (r.E b κ x) fun R hR => some ⟨wAugAttr c i R P T, fun v h => SV_augAttr X.O (X.cls c) (hR v h) (hP v h) (hT b) hi⟩
    | none => none
  | _ => none
def iRaise (x : Option Expr) (y : Option Expr) (pos : Pos) : Got κ fun f (P : PS) => SV G b f κ.ns (.Raise x y pos) P := match x, y with
  | some x, none => match x with
    | .Call f es kws cp => match f, es, kws with
      | .Name x np, [e], [] => onGl X κ x fun hx hd o hg => match o, hg with
        | some (.ref a), hg => use (excAt G a) fun c ha => chk (noStar [e]) fun hn => dec (Nat.decLe 1 b) fun hle => use (r.E 1 κ e) fun P hP => some ⟨wRaise c P, fun v h => (SV_raise (b := 0) X.O (X.exc c) X.press (hP v h) hn hx (ha ▸ hg) hd).le hle⟩
        | _, _ => none
      | _, _, _ => none
    | _ => none
  | _, _ => none
def iS (x : Stmt) : Got κ fun f (P : PS) => SV G b f κ.ns x P := match x with
  | .Return e pos => match e with
    | some e => use (iNew r b κ κ.nl e) fun P hP => some ⟨wRet P, fun c h => SV_ret (hP c h)⟩
    | none => none
  | .Expr e pos => use (r.E b κ e) fun P hP => onSw κ e none pos.line (fun hs => some ⟨wExp P, fun c h => SV_exp (hP c h) (hs c)⟩) fun _ => none
  | .If t x y pos => use (r.T b κ t) fun T hT => use (r.B b κ x) fun P hP => use (r.B b κ y) fun R hR => some ⟨wIf T P R, fun c h => SV_if (hT c h) (hP c h) (hR c h)⟩
  | .While t x y pos => use (r.T b κ t) fun T hT => use (r.B b κ x) fun P hP => match y with
    | [] => some ⟨wWhile T P, fun c h => SV_while (hT c h) (hP c h)⟩
    | _ :: _ => none
  | .For t x body y pos => use (iIt X r b κ t x) fun I hI => use (iTg b κ (soV κ) KV.ok t) fun T hT => use (r.B b κ body) fun P hP => chk (notSet x) fun hs => match y with
    | [] => some ⟨wFor I T P, fun c h => SV_for (hI c h) (hT c) (hP c h) (iter_plain hs)⟩
    | _ :: _ => none
  | .Raise x y pos => iRaise X r b κ x y pos
  | .AugAssign t op e pos => iAug X r b κ t op e pos
  | .Assign ts e pos => match ts with
    | [t] => iSet X r b κ t e pos
    | _ => none
  | _ => none
def iB (xs : List Stmt) : Got κ fun f (P : PS) => SB G b f κ.ns xs P := match xs with
  | [] => some ⟨wSkip, fun _ _ => SB_nil⟩
  | x :: xs => use (r.S b κ x) fun P hP => use (r.B b κ xs) fun R hR => some ⟨wSeq P R, fun c h => SB_cons (hP c h) (hR c h)⟩
end
/-- the interpreter, n steps deep -/
def run {G : Gr} (X : Lx G) : Nat → In G := Nat.rec ⟨fun _ _ _ => none, fun _ _ _ => none, fun _ _ _ _ => none, fun _ _ _ _ => none, fun _ _ _ => none, fun _ _ _ => none⟩ fun _ r => ⟨iE X r, iT r, iC r, iL r, iS X r, iB r⟩
end
end Mine
namespace Mine
set_option genSizeOf false
set_option genInjectivity false
open PySem PySem.W PySem.Calls PyProof.Rows
noncomputable section

/-! ## a def's contract -/
def fdAt (K : Frag) (a : Addr) : FuncData := match K.lookup a with
  | some ⟨_, _, .func fd, _⟩ => fd
  | _ => default
def pnames (K : Frag) (a : Addr) : List Str := (fdAt K a).params.args.map Arg.arg
theorem fdAt_eq {K : Frag} {a : Addr} {oc : Value} {od : Option Addr} {fd : FuncData} {osl : Array (Option Value)} (h : K.lookup a = some ⟨oc, od, .func fd, osl⟩) : fdAt K a = fd := by unfold fdAt; rw [h]
/-- how the def binds what it is given; dvs: the values that stand for what is left out -/
def Binds (K : Frag) (a : Addr) (dvs : List Value) : Prop := ∀ (s : Shared) (vals : List Value), K.In s.heap → vals.length + dvs.length = (pnames K a).length → BindsTo s (fdAt K a) ⟨vals, []⟩ ((pnames K a).zip (vals ++ dvs))
def AllL {α : Type} (C : List α → Prop) : Nat → Prop
  | 0 => C []
  | n + 1 => ∀ v, AllL (fun l => C (v :: l)) n
theorem AllL.of {α : Type} : ∀ {n : Nat} {C : List α → Prop}, AllL C n → ∀ {l : List α}, l.length = n → C l
  | 0, _, h, [], _ => h
  | _ + 1, _, h, v :: _, e => (h v).of (Nat.succ.inj e)
theorem Binds.of {K : Frag} {a : Addr} (n : Nat) (hn : (pnames K a).length = n) (h : AllL (fun vals => bindArgs (fdAt K a) ⟨vals, []⟩ = pure ((pnames K a).zip vals)) n) : Binds K a [] := fun s vals _ hl => by
  rw [List.append_nil]; exact .of_eq (h.of (hl.trans hn))
section
variable {G : Gr} (X : Lx G)
def refO : Value → Option Addr
  | .ref a => some a
  | _ => none
theorem refO_eq : ∀ {v : Value} {a : Addr}, refO v = some a → v = .ref a
  | .ref _, _, rfl => rfl
theorem keep_fn {K : Frag} {a : Addr} {oc : Value} {od : Option Addr} {fd : FuncData} {osl : Array (Option Value)} (h : K.lookup a = some ⟨oc, od, .func fd, osl⟩) : keepIn K (.ref a) = true := by unfold keepIn; dsimp only; rw [h]
def onDef {β : Type} (K : Frag) (a : Addr) (k : ∀ {oc : Value} {od : Option Addr} {osl : Array (Option Value)} {name qual : Str} {params : Arguments} {body : List Stmt} {scope : Scope} {dV kV doc pm : Value} {an : Option Addr} {cdv ct : Value}, K.lookup a = some ⟨oc, od, .func (fnOf name qual params body scope dV kV doc pm an cdv ct), osl⟩ → Option β) : Option β := gt (K.lookup a) fun o ho => match o, ho with
  | ⟨oc, od, .func ⟨name, qual, params, .stmts body, scope, gl, [], dV, kV, doc, pm, an, cdv, ct, bi⟩, osl⟩, ho => dec (Nat.decEq gl mainGlobals) fun e1 => dec (Nat.decEq bi builtinsNs) fun e2 => @k oc od osl name qual params body scope dV kV doc pm an cdv ct (by subst e1 e2; exact ho)
  | _, _ => none
def blk (qual : Str) (scope : Scope) (cdv : Value) (names : List Str) (nl : Bool) : Cx := ⟨scope, qual ++ ".<locals>.", names ++ (scope.names.filter fun y => (y.2 == .local || y.2 == .cell) && !names.contains y.1).map (·.1), refO cdv, nl⟩
def DefP (scope : Scope) (names : List Str) : Prop := names.Nodup ∧ (∀ n ∈ names, scope.names.lookup n = some .local ∨ scope.names.lookup n = some .cell) ∧ (scope.names.map (·.1)).Nodup ∧ scope.kind = .function ∧ scope.isCoroutine = false ∧ scope.isGenerator = false
abbrev DefV (G : Gr) (dvs : List Value) (dds : List D) : Prop := ∀ h θ X, (∀ b o, G.h₀.get? b = some o → h.get? b = some o) → (∀ a ∈ X, G.h₀.get? a = none) → Reps G h θ X dvs dds
def iDef (b : Nat) (a : Addr) (dvs : List Value) (dds : List D) : Option {P : PF // Binds G.K a dvs → DefV G dvs dds → FK G (b + 1) a P} := onDef G.K a fun {oc od osl name qual params body scope dV kV doc pm an cdv ct} ho =>
  dec (p := DefP scope (params.args.map Arg.arg)) (inferInstanceAs (Decidable (_ ∧ _ ∧ _ ∧ _ ∧ _ ∧ _))) fun hp => chk (codeIn G.K cdv qual) fun hc => chk (isFn G.K (.ref a)) fun hf => use ((run X 60).B b (blk qual scope cdv (params.args.map Arg.arg) false) body) fun P hP =>
    some ⟨_, fun hb hd => ⟨FV_def X.O ho hc (fun s vals h1 h2 => by have := hb s vals h1; unfold pnames at this; rw [fdAt_eq ho] at this; exact this h2) hd rfl hp.1 hp.2.1 hp.2.2.1 hp.2.2.2.1 hp.2.2.2.2.1 hp.2.2.2.2.2 (hP cdv fun _ e => refO_eq e), keep_fn ho, hf⟩⟩
def iDefN (b : Nat) (a : Addr) : Option {P : PN // Binds G.K a [] → FN G (b + 1) a P} := onDef G.K a fun {oc od osl name qual params body scope dV kV doc pm an cdv ct} ho =>
  dec (p := DefP scope (params.args.map Arg.arg)) (inferInstanceAs (Decidable (_ ∧ _ ∧ _ ∧ _ ∧ _ ∧ _))) fun hp => chk (codeIn G.K cdv qual) fun hc => use ((run X 60).B b (blk qual scope cdv (params.args.map Arg.arg) true) body) fun P hP =>
    some ⟨_, fun hb => FN_def X.O ho hc (fun s vals h1 h2 => by have := hb s vals h1; unfold pnames at this; rw [fdAt_eq ho] at this; exact this h2) rfl hp.1 hp.2.1 hp.2.2.1 hp.2.2.2.1 hp.2.2.2.2.1 hp.2.2.2.2.2 (hP cdv fun _ e => refO_eq e)⟩
def valO {α : Type} {p : α → Prop} : Option {a : α // p a} → Option α
  | some ⟨a, _⟩ => some a
  | none => none
theorem valO_eq {α : Type} {p : α → Prop} {o : Option {a : α // p a}} {a : α} (h : valO o = some a) : p a := by
  cases o with
  | some x => cases h; exact x.2
  | none => exact nomatch h
theorem FV_int {b : Nat} {a : Addr} {S : PF} (P : PF) (dvs : List Value) (dds : List D) (e : valO (iDef X b a dvs dds) = some P) (hb : Binds G.K a dvs) (hd : DefV G dvs dds) (k : ∀ ds μ Q Ex, S ds μ Q Ex → P ds μ Q Ex) : FK G (b + 1) a S :=
  have h := (valO_eq e) hb hd
  ⟨h.fv.imp k, h.keep, h.fn⟩
end
end
end Mine
namespace Mine
open PySem PySem.W PySem.Calls PyProof.Rows
theorem zip_look : ∀ {ns : List Str} {vs : List Value}, ns.Nodup → vs.length = ns.length → ∀ {xs : List Str}, (∀ n ∈ xs, n ∈ ns) → (∀ n ∈ xs, ((ns.zip vs).lookup n).isNone = false)
  | [], _, _, _, xs, h => fun n hn => nomatch h n hn
  | a :: r, v :: s, nd, e, xs, h => fun n hn => by
    rw [List.zip_cons_cons, List.lookup_cons]
    by_cases q : n = a
    · rw [q, beq_self_eq_true]; rfl
    · rw [beq_false_of_ne q]
      exact zip_look (List.nodup_cons.mp nd).2 (Nat.succ.inj e) (xs := [n]) (fun m hm => by
        rw [List.mem_singleton.mp hm]
        exact (List.mem_cons.mp (h n hn)).resolve_left q) n (.head _)
theorem zip_cut : ∀ {ns : List Str} {vs : List Value} {P : List (Str × Value)}, ns.Nodup → vs.length = ns.length → (∀ n ∈ ns, ∀ p ∈ P, p.1 ≠ n) → (ns.filterMap fun n => ((P ++ ns.zip vs).lookup n).map ((n, ·))) = ns.zip vs
  | [], [], _, _, _, _ => rfl
  | a :: r, v :: s, P, nd, e, hp => by
    have h1 : ∀ {P : List (Str × Value)}, (∀ p ∈ P, p.1 ≠ a) → (P ++ (a, v) :: r.zip s).lookup a = some v := fun {P} h => by
      induction P with
      | nil => rw [List.nil_append, List.lookup_cons, beq_self_eq_true]
      | cons p P ih => rw [List.cons_append, show p = (p.1, p.2) from rfl, List.lookup_cons, beq_false_of_ne (h p (.head _)).symm]; exact ih fun q m => h q (.tail _ m)
    have h2 := zip_cut (P := P ++ [(a, v)]) (List.nodup_cons.mp nd).2 (Nat.succ.inj e) fun n hn p m => by
      rcases List.mem_append.mp m with m | m
      · exact hp n (.tail _ hn) p m
      · rw [List.mem_singleton.mp m]; exact fun q => (List.nodup_cons.mp nd).1 (by rw [show a = n from q]; exact hn)
    rw [List.append_assoc] at h2
    rw [List.zip_cons_cons, List.filterMap_cons, h1 (hp a (.head _))]
    exact congrArg ((a, v) :: ·) h2
abbrev Lk (p g : Prop) : Prop := p = g → g
abbrev Lj (p g : Prop) : Prop := p = g → p → g
local macro_rules
  | `(tactic| walk_at "wh") => `(tactic| (refine' (?vcf : Lk _ _) ?vcu; (case vcu => ((conv => rhs; whnf); first | done | exact rfl)); intro vch; refine' (?vck : Lj _ _) vch ?vcm; (case vck => exact fun _ x => x); clear vch))
  | `(tactic| walk_at "wl") => `(tactic| (refine' (?vcf : Lk _ _) ?vcu; (case vcu => ((conv => rhs; lhs; whnf); first | done | exact rfl)); intro vch; refine' (?vck : Lj _ _) vch ?vcm; (case vck => exact fun _ x => x); clear vch))
theorem dec_no {p : Prop} {α : Type} {f : ¬ p → α} {g : p → α} {r : α} {d : Decidable p} (n : ¬ p) (h : f n = r) : Decidable.rec (motive := fun _ => α) f g d = r := by
  cases d with
  | isFalse _ => exact h
  | isTrue q => exact absurd q n
theorem b_no {b : Bool} (h : b = false) : ¬ b = true := fun q => nomatch h.symm.trans q
theorem filter_none {α : Type} {p : α → Bool} : ∀ {l : List α}, (∀ x ∈ l, p x = false) → (l.filter p).isEmpty = true
  | [], _ => rfl
  | a :: l, h => by rw [List.filter_cons, h a (.head _)]; exact filter_none fun x m => h x (.tail _ m)
theorem bind_none {β σ γ : Type} {xs : List β} (hx : xs = []) {s : σ} {f : β → σ → Sem (ForInStep σ)} {k : σ → Sem γ} {r : Sem γ} (h : k s = r) : Sem.bind (forIn xs s f) k = r := by subst hx; exact h
theorem zip_drop {α β : Type} {xs : List α} {k : Nat} : xs.zip (List.drop k ([] : List β)) = [] := by rw [List.drop_nil, List.zip_nil_right]
def noneV : Value → Bool
  | .none => true
  | _ => false
theorem noneV_eq {v : Value} (h : noneV v = true) : v = .none := by
  cases v with
  | none => rfl
  | _ => exact nomatch h
theorem simple_args {name qual : Str} {ns : List Arg} {kd : List (Option Expr)} {df : List Expr} {body : FuncBody} {scope : Scope} {gl : Addr} {cl : List (Str × Addr)} {kV doc pm : Value} {an : Option Addr} {cdv ct : Value} {bi : Addr} {vals : List Value} (nd : (ns.map Arg.arg).Nodup) (e : vals.length = (ns.map Arg.arg).length) :
    bindArgs ⟨name, qual, ⟨[], ns, none, [], kd, none, df⟩, body, scope, gl, cl, .none, kV, doc, pm, an, cdv, ct, bi⟩ ⟨vals, []⟩ = pure ((ns.map Arg.arg).zip vals) := by
  walk_at "wl"
  refine dec_no (b_no ?_) ?_
  · exact congrArg (· && true) (decide_eq_false (Nat.not_lt.mpr (Nat.le_of_eq e)))
  walk_at "wl"
  refine dec_no (b_no ?_) ?_
  · exact congrArg Bool.not (filter_none fun n hn => zip_look nd e (fun _ q => q) n (List.mem_of_mem_take hn))
  walk_at "wl"
  refine bind_none zip_drop ?_
  walk_at "wl"
  refine congrArg (α := List (Str × Value)) Sem.pure ?_
  have h := zip_cut (P := []) nd e (fun _ _ _ m => nomatch m)
  exact (congrArg (fun l => List.filterMap _ l) (List.append_nil _)).trans h
def simpleP (p : Arguments) (dV : Value) : Bool := p.posonlyargs.isEmpty && (p.vararg.isNone && (p.kwonlyargs.isEmpty && (p.kwarg.isNone && (noneV dV && decide ((p.args.map Arg.arg).Nodup)))))
def simpleB (fd : FuncData) : Bool := match fd with
  | ⟨_, _, p, _, _, _, _, dV, _, _, _, _, _, _, _⟩ => simpleP p dV
theorem simple_p {name qual : Str} {p : Arguments} {dV : Value} {body : FuncBody} {scope : Scope} {gl : Addr} {cl : List (Str × Addr)} {kV doc pm : Value} {an : Option Addr} {cdv ct : Value} {bi : Addr} {vals : List Value} (h : simpleP p dV = true) (e : vals.length = (p.args.map Arg.arg).length) :
    bindArgs ⟨name, qual, p, body, scope, gl, cl, dV, kV, doc, pm, an, cdv, ct, bi⟩ ⟨vals, []⟩ = pure ((p.args.map Arg.arg).zip vals) := by
  have a1 := and2 h
  have a2 := and2 a1.2
  have a3 := and2 a2.2
  have a4 := and2 a3.2
  have a5 := and2 a4.2
  obtain ⟨po, args, va, ko, kd, kw, df⟩ := p
  cases List.isEmpty_iff.mp a1.1
  cases Option.isNone_iff_eq_none.mp a2.1
  cases List.isEmpty_iff.mp a3.1
  cases Option.isNone_iff_eq_none.mp a4.1
  cases noneV_eq a5.1
  exact simple_args (of_decide_eq_true a5.2) e
theorem Binds.simple {K : Frag} {a : Addr} (h : simpleB (fdAt K a) = true) : Binds K a [] := fun s vals _ hl => by
  rw [List.append_nil]
  exact .of_eq (simple_p h hl)
end Mine
namespace Mine
open PySem PySem.W PySem.Calls PyProof.Rows

def cAd : Cls → Addr
  | .octets => 209
  | .fheader => 246
  | .bhead => 295
  | .fspan => 337
def eAd : Exn → Addr
  | .short => 52
  | .header => 76
  | .block => 64
  | .trailing => 88
  | .older => 100
  | .badarg => 112
noncomputable def GG (prog : Program) (w : World) (h₀ : Heap) (mg mb : Str → Option Value) (tabs : List (Addr × Addr)) (tq : Addr → Str) : Gr := { prog, w, K := Mine.K0.heap_1 w.params, h₀, mg, mb, tabs, tq, cA := cAd, eA := eAd }
section
variable {prog : Program} {w : World} {h₀ : Heap} {mg mb : Str → Option Value} {tabs : List (Addr × Addr)} {tq : Addr → Str}

theorem clsOk (c : Cls) : ClsOk (GG prog w h₀ mg mb tabs tq) c := by
  cases c <;> exact ⟨by decide +kernel, fun nm hm => by
    simp only [Cls.names, List.mem_cons, List.not_mem_nil, or_false] at hm
    rcases hm with rfl | rfl | rfl | rfl | rfl <;> exact ⟨rfl, rfl⟩, rfl, rfl, rfl, fun nm hm => by
    simp only [Cls.names, List.mem_cons, List.not_mem_nil, or_false] at hm
    rcases hm with rfl | rfl | rfl | rfl | rfl <;> rfl⟩
theorem isiOk (c : Cls) : IsiOk (GG prog w h₀ mg mb tabs tq) c := by cases c <;> exact ⟨rfl, rfl, rfl, rfl, rfl, rfl, rfl⟩
theorem newOk_octets : NewOk (GG prog w h₀ mg mb tabs tq) .octets 150 := ⟨rfl, rfl, rfl, rfl⟩
theorem newOk_fheader : NewOk (GG prog w h₀ mg mb tabs tq) .fheader 236 := ⟨rfl, rfl, rfl, rfl⟩
theorem newOk_bhead : NewOk (GG prog w h₀ mg mb tabs tq) .bhead 292 := ⟨rfl, rfl, rfl, rfl⟩
theorem newOk_fspan : NewOk (GG prog w h₀ mg mb tabs tq) .fspan 334 := ⟨rfl, rfl, rfl, rfl⟩
theorem excK (c : Exn) : ExcK (GG prog w h₀ mg mb tabs tq).K ((GG prog w h₀ mg mb tabs tq).eA c) 36 := by
  cases c <;> exact ⟨⟨39, ⟨rfl⟩⟩, rfl, rfl, rfl, rfl, rfl, rfl, rfl, rfl⟩
theorem excCls : ExcCls (GG prog w h₀ mg mb tabs tq) 39 := by
  refine ⟨fun c => ?_, fun c c' h => ?_, fun c => ?_⟩
  · cases c <;> exact ⟨rfl⟩
  · change eAd c = eAd c' at h; cases c <;> cases c' <;> first | rfl | exact absurd h (by decide)
  · change eAd c ≠ 39; cases c <;> decide
theorem pressFn : PressFn (GG prog w h₀ mg mb tabs tq) 36 := by
  exact .mk rfl rfl (fun s a x X => binds_K X rfl rfl rfl rfl rfl) rfl rfl rfl rfl (fun env => ⟨_, rfl⟩) (fun env => rfl) (fun env => rfl) rfl rfl

/-- what the text's names stand for, and what is known of its defs -/
noncomputable def valAt (G : Gr) (O : G.Ok) (hw : ∃ n t u v w, G.K.lookup 214 = some ({ cls := .type "tuple", data := .seq #[.int 0 t, .int 1 u, .int 2 v, .int 4 w] n } : Obj)) : (v : Value) → Option {d : D // BRep G v d}
  | .int i t => some ⟨_, .int⟩
  | .ref a => dec (Nat.decEq a 214) fun e => some ⟨.tup [.int 0, .int 1, .int 2, .int 4], by
      subst e
      obtain ⟨n, t, u, v, w, h⟩ := hw
      exact fun h' θ X hb hX => .tup (vs := [.int 0 t, .int 1 u, .int 2 v, .int 4 w]) (hb _ _ (O.X _ _ h)) (fun q => nomatch (hX _ q).symm.trans (O.X _ _ h)) (.cons (.int _ _) (.cons (.int _ _) (.cons (.int _ _) (.cons (.int _ _) .nil))))⟩
  | _ => none
noncomputable def glT : List (Gl (GG prog w h₀ mg mb tabs tq)) := [⟨"need_count", some (.ref 121), rfl⟩,
  ⟨"end_of", some (.ref 128), rfl⟩,
  ⟨"from_little", some (.ref 135), rfl⟩,
  ⟨"window_of", some (.ref 221), rfl⟩,
  ⟨"is_skip_magic", some (.ref 257), rfl⟩,
  ⟨"check_magic", some (.ref 264), rfl⟩,
  ⟨"field_counts", some (.ref 271), rfl⟩,
  ⟨"read_header", some (.ref 278), rfl⟩,
  ⟨"read_block_head", some (.ref 306), rfl⟩,
  ⟨"read_skippable", some (.ref 313), rfl⟩,
  ⟨"next_magic", some (.ref 320), rfl⟩,
  ⟨"measure", some (.ref 349), rfl⟩,
  ⟨"spans", some (.ref 356), rfl⟩,
  ⟨"content_size", some (.ref 363), rfl⟩,
  ⟨"_law_jar", some (.ref 370), rfl⟩,
  ⟨"_law_take", some (.ref 377), rfl⟩,
  ⟨"_law_some", some (.ref 382), rfl⟩,
  ⟨"_law_low", some (.ref 387), rfl⟩,
  ⟨"_law_sum", some (.ref 392), rfl⟩,
  ⟨"_law_blocks", some (.ref 399), rfl⟩,
  ⟨"_law_frame", some (.ref 406), rfl⟩,
  ⟨"_law_frames", some (.ref 413), rfl⟩,
  ⟨"_law_row", some (.ref 420), rfl⟩,
  ⟨"_law_word", some (.ref 427), rfl⟩,
  ⟨"_law_told", some (.ref 434), rfl⟩,
  ⟨"_law_spans", some (.ref 439), rfl⟩,
  ⟨"_law_steps", some (.ref 446), rfl⟩,
  ⟨"_law_led", some (.ref 451), rfl⟩,
  ⟨"_law_begins", some (.ref 458), rfl⟩,
  ⟨"_law_other", some (.ref 465), rfl⟩,
  ⟨"_law_begin_right", some (.ref 470), rfl⟩,
  ⟨"_law_place", some (.ref 477), rfl⟩,
  ⟨"_law_rest", some (.ref 484), rfl⟩,
  ⟨"_law_rest_right", some (.ref 491), rfl⟩,
  ⟨"_law_bent", some (.ref 498), rfl⟩,
  ⟨"_law_bent_right", some (.ref 503), rfl⟩,
  ⟨"_law_amount", some (.ref 508), rfl⟩,
  ⟨"_law_exchanged_right", some (.ref 515), rfl⟩,
  ⟨"_law_put_right", some (.ref 522), rfl⟩,
  ⟨"_law_midst_right", some (.ref 529), rfl⟩,
  ⟨"law", some (.ref 536), rfl⟩,
  ⟨"Octets", some (.ref 209), rfl⟩,
  ⟨"FrameHeader", some (.ref 246), rfl⟩,
  ⟨"BlockHead", some (.ref 295), rfl⟩,
  ⟨"FrameSpan", some (.ref 337), rfl⟩,
  ⟨"CutShort", some (.ref 52), rfl⟩,
  ⟨"BadBlock", some (.ref 64), rfl⟩,
  ⟨"BadHeader", some (.ref 76), rfl⟩,
  ⟨"Trailing", some (.ref 88), rfl⟩,
  ⟨"Unsupported", some (.ref 100), rfl⟩,
  ⟨"BadArgument", some (.ref 112), rfl⟩,
  ⟨"IDENT_COUNTS", some (.ref 214), rfl⟩,
  ⟨"FRAME_MAGIC", _, rfl⟩,
  ⟨"SKIP_MAGIC", _, rfl⟩,
  ⟨"OLDEST_MAGIC", _, rfl⟩,
  ⟨"FIRST_LEGACY", _, rfl⟩,
  ⟨"LAST_LEGACY", _, rfl⟩,
  ⟨"LEAST_LOG", _, rfl⟩,
  ⟨"RUN", _, rfl⟩,
  ⟨"RESERVED", _, rfl⟩,
  ⟨"len", none, rfl⟩,
  ⟨"isinstance", none, rfl⟩,
  ⟨"int", none, rfl⟩,
  ⟨"bytes", none, rfl⟩,
  ⟨"sum", none, rfl⟩,
  ⟨"min", none, rfl⟩,
  ⟨"bool", none, rfl⟩,
  ⟨"str", none, rfl⟩,
  ⟨"range", none, rfl⟩,
  ⟨"enumerate", none, rfl⟩]
noncomputable def mtT : List (Mt (GG prog w h₀ mg mb tabs tq)) := [⟨209, "left", 157, rfl, rfl⟩,
  ⟨209, "ahead", 164, rfl, rfl⟩,
  ⟨209, "take", 171, rfl, rfl⟩,
  ⟨209, "octet", 185, rfl, rfl⟩,
  ⟨209, "little", 192, rfl, rfl⟩,
  ⟨209, "rest", 206, rfl, rfl⟩,
  ⟨246, "told", 243, rfl, rfl⟩]
noncomputable def LX (O : ((GG prog w h₀ mg mb tabs tq)).Ok) (Φ : List (Ent (GG prog w h₀ mg mb tabs tq))) : Lx (GG prog w h₀ mg mb tabs tq) := ⟨O, clsOk, isiOk, 36, excK, pressFn, valAt (GG prog w h₀ mg mb tabs tq) O ⟨_, _, _, _, _, rfl⟩, Φ, glT, mtT⟩
end
end Mine
namespace Mine
open PySem PySem.W PySem.Calls PyProof.Rows

/-! ## contracts -/
abbrev PK (α : Type) := α → (D → List MO → Prop) → (Exn → List MO → Prop) → Prop
inductive Ct {α : Type} (enc : α → List D × List MO) (k : PK α) (Q : D → List MO → Prop) (Ex : Exn → List MO → Prop) : List D → List MO → Prop
  | mk (x : α) (h : k x Q Ex) : Ct enc k Q Ex (enc x).1 (enc x).2
abbrev sp {α : Type} (enc : α → List D × List MO) (k : PK α) : PF := fun ds μ Q Ex => Ct enc k Q Ex ds μ
theorem FV_ct {G : Gr} (X : Lx G) {b : Nat} {a : Addr} {α : Type} {enc : α → List D × List MO} {k : PK α} (P : PF) (dvs : List Value) (dds : List D) (e : valO (iDef X b a dvs dds) = some P) (hb : Binds G.K a dvs) (hd : DefV G dvs dds) (v : ∀ x Q Ex, k x Q Ex → P (enc x).1 (enc x).2 Q Ex) : FK G (b + 1) a (sp enc k) :=
  FV_int X P dvs dds e hb hd fun _ _ _ _ h => by cases h with | mk x h => exact v x _ _ h
theorem br_of {c : Bool} {A B : Prop} (h : c = true → A) (g : c = false → B) : Br c A B := by
  cases c with
  | true => exact h rfl
  | false => exact g rfl
theorem br_map {c : Bool} {A B A' B' : Prop} (p : br c A' B') (h : c = true → A' → A) (g : c = false → B' → B) : Br c A B := by
  cases c with
  | true => exact h rfl p
  | false => exact g rfl p
end Mine
namespace Mine
open PySem

/-! ## parsers: trees of takings -/
def le : List UInt8 → Nat
  | [] => 0
  | b :: r => b.toNat + 256 * le r

inductive Pr (α : Type) where
  | ret (a : α)
  | fail (e : Exn)
  | get (n : Nat) (e : Exn) (k : List UInt8 → Pr α)
inductive Out (α : Type) where
  | ok (a : α) (n : Nat)
  | err (e : Exn)
section
variable {α β : Type}
def Out.add (m : Nat) : Out α → Out α
  | .ok a n => .ok a (m + n)
  | .err e => .err e
def Pr.run : Pr α → List UInt8 → Out α
  | .ret a, _ => .ok a 0
  | .fail e, _ => .err e
  | .get n e k, r => if n ≤ r.length then ((k (r.take n)).run (r.drop n)).add n else .err e
def Pr.bind : Pr α → (α → Pr β) → Pr β
  | .ret a, f => f a
  | .fail e, _ => .fail e
  | .get n e k, f => .get n e fun l => (k l).bind f

variable {l r s : List UInt8} {i n c m : Nat} {a : α} {e : Exn} {p : Pr α}
theorem add_ok {o : Out α} (h : o.add m = .ok a n) : ∃ k, o = .ok a k ∧ n = m + k := by
  cases o with
  | ok b k => cases h; exact ⟨k, rfl, rfl⟩
  | err e => cases h
theorem run_ext (h : p.run r = .ok a n) : n ≤ r.length ∧ ∀ s, p.run (r.take n ++ s) = .ok a n := by
  induction p generalizing r n with
  | ret b => cases h; exact ⟨Nat.zero_le _, fun s => rfl⟩
  | fail e => cases h
  | get m e k ih =>
    unfold Pr.run at h
    split at h
    · rename_i hm
      obtain ⟨q, h1, rfl⟩ := add_ok h
      obtain ⟨h2, h3⟩ := ih _ h1
      rw [List.length_drop] at h2
      refine ⟨by lia, fun s => ?_⟩
      unfold Pr.run
      rw [if_pos (by simp; lia)]
      have e1 : (r.take (m + q) ++ s).take m = r.take m := by
        rw [List.take_append_of_le_length (by simp; lia), List.take_take, Nat.min_eq_left (by lia)]
      have e2 : (r.take (m + q) ++ s).drop m = (r.drop m).take q ++ s := by
        rw [List.drop_append_of_le_length (by simp; lia), List.drop_take]; congr 2; lia
      rw [e1, e2, h3 s]; rfl
    · cases h
/-- all shortfalls are «short» -/
inductive Sh : Pr α → Prop
  | ret (a : α) : Sh (.ret a)
  | fail (e : Exn) : e ≠ .badarg → Sh (.fail e)
  | get (n : Nat) (k : List UInt8 → Pr α) : (∀ l, Sh (k l)) → Sh (.get n .short k)
theorem Sh.bind {f : α → Pr β} (h : Sh p) (hf : ∀ a, Sh (f a)) : Sh (p.bind f) := by
  induction h with
  | ret a => exact hf a
  | fail e he => exact .fail e he
  | get n k _ ih => exact .get n _ fun l => ih l
theorem Sh.ite {q : Pr α} {P : Prop} [Decidable P] (h : Sh p) (h' : Sh q) : Sh (if P then p else q) := by
  by_cases h0 : P <;> simp [h0, h, h']
theorem run_cut (h : Sh p) (c : Nat) : p.run (r.take c) = p.run r ∨ p.run (r.take c) = .err .short := by
  induction h generalizing r c with
  | ret a => exact .inl rfl
  | fail e => exact .inl rfl
  | get n k _ ih =>
    unfold Pr.run
    by_cases hn : n ≤ (r.take c).length
    · rw [List.length_take] at hn
      rw [if_pos (by rw [List.length_take]; exact hn), if_pos (by lia), List.take_take, Nat.min_eq_left (by lia), List.drop_take]
      rcases ih (r.take n) (r := r.drop n) (c - n) with h | h
      · exact .inl (by rw [h])
      · exact .inr (by rw [h]; rfl)
    · exact .inr (by rw [if_neg hn])
theorem run_nobad (h : Sh p) : p.run r ≠ .err .badarg := by
  induction h generalizing r with
  | ret a => intro q; cases q
  | fail e he => intro q; cases q; exact he rfl
  | get n k _ ih =>
    unfold Pr.run
    split
    · intro q
      cases h : (k (r.take n)).run (r.drop n) with
      | ok a m => rw [h] at q; cases q
      | err e => rw [h] at q; cases q; exact ih _ h
    · intro q; cases q
theorem run_more (h : Sh p) (hr : p.run r = .err e) (he : e ≠ .short) (s : List UInt8) : p.run (r ++ s) = .err e := by
  rcases run_cut h (r := r ++ s) r.length with q | q
  · rw [List.take_left] at q; rw [← q, hr]
  · rw [List.take_left, hr] at q; cases q; exact absurd rfl he
end

/-! ## the parser of a frame -/
structure Hd where
  window : Option Nat
  size : Option Nat
  ident : Nat
  checked : Bool
  single : Bool
abbrev Bl := List (Nat × Nat)
def octN (l : List UInt8) : Nat := (l.getD 0 0).toNat
def icnt (x : Nat) : Nat := if x % 4 = 3 then 4 else x % 4
def scnt (x : Nat) : Nat := if x / 64 = 0 then x / 32 % 2 else 2 ^ (x / 64)
def win (x : Nat) : Nat := 2 ^ (10 + x / 8) + 2 ^ (10 + x / 8) / 8 * (x % 8)
abbrev isOld (m : Nat) : Prop := m = 4247762206 ∨ (4247762210 ≤ m ∧ m ≤ 4247762215)
abbrev isFr (m : Nat) : Prop := m = 4247762216
abbrev isSk (m : Nat) : Prop := m / 16 = 407710288 / 16
def takeP (n : Nat) : Pr (List UInt8) := .get n .short .ret
def littleP (n : Nat) : Pr Nat := .get n .short fun l => .ret (le l)
def octP : Pr Nat := .get 1 .short fun l => .ret (octN l)
def sizeP (x : Nat) : Pr (Option Nat) := if scnt x = 0 then .ret none else (littleP (scnt x)).bind fun v => .ret (some (if scnt x = 2 then v + 256 else v))
def winP (x : Nat) : Pr Nat := if x / 32 % 2 = 1 then .ret 0 else octP.bind fun w => .ret (win w)
def identP (x : Nat) : Pr Nat := if icnt x = 0 then .ret 0 else littleP (icnt x)
/-- a header, its magic number behind -/
def hdrQ : Pr Hd := octP.bind fun x => if x / 8 % 2 = 1 then .fail .header else (winP x).bind fun w => (identP x).bind fun d => (sizeP x).bind fun s =>
  .ret ⟨if x / 32 % 2 = 1 then s else some w, s, d, x / 4 % 2 = 1, x / 32 % 2 = 1⟩
def hdrM (m : Nat) : Pr Hd := if isOld m then .fail .older else if isFr m then hdrQ else .fail .header
def hdrP : Pr Hd := (littleP 4).bind hdrM
def bheadP : Pr (Bool × Nat × Nat) := (littleP 3).bind fun v => .ret (v % 2 = 1, v / 2 % 4, v / 8)
def blkP : Nat → Bl → Pr Bl
  | 0, _ => .fail .short
  | f + 1, acc => bheadP.bind fun h => if h.2.1 = 3 then .fail .block else (takeP (if h.2.1 = 1 then 1 else h.2.2)).bind fun _ =>
    if h.1 = true then .ret (acc ++ [(h.2.1, h.2.2)]) else blkP f (acc ++ [(h.2.1, h.2.2)])
def sumP (h : Hd) (b : Bl) : Pr (Option Hd × Bl) := if h.checked = true then (littleP 4).bind fun _ => .ret (some h, b) else .ret (some h, b)
def skipQ : Pr (List UInt8) := (littleP 4).bind takeP
def skipM (m : Nat) : Pr (Nat × List UInt8) := if isSk m then skipQ.bind fun l => .ret (m % 16, l) else .fail .header
def skipP : Pr (Nat × List UInt8) := (littleP 4).bind skipM
def frameM (N : Nat) (first : Bool) (m : Nat) : Pr (Option Hd × Bl) := if first = false ∧ ¬ isFr m ∧ ¬ isSk m then .fail .trailing else
  if isSk m then (skipM m).bind fun _ => .ret (none, []) else (hdrM m).bind fun h => (blkP N []).bind (sumP h)
def measP (N : Nat) (first : Bool) : Pr (Option Hd × Bl) := .get 4 (if first then .short else .trailing) fun l => frameM N first (le l)

theorem sh_take {n : Nat} : Sh (takeP n) := .get _ _ fun _ => .ret _
theorem sh_little {n : Nat} : Sh (littleP n) := .get _ _ fun _ => .ret _
theorem sh_oct : Sh octP := .get _ _ fun _ => .ret _
theorem sh_hdrQ : Sh hdrQ := sh_oct.bind fun x => .ite (.fail _ (fun q => nomatch q)) (.bind (.ite (.ret _) (sh_oct.bind fun _ => .ret _)) fun _ => .bind (.ite (.ret _) sh_little) fun _ => .bind (.ite (.ret _) (sh_little.bind fun _ => .ret _)) fun _ => .ret _)
theorem sh_hdrM {m : Nat} : Sh (hdrM m) := .ite (.fail _ (fun q => nomatch q)) (.ite sh_hdrQ (.fail _ (fun q => nomatch q)))
theorem sh_blk : ∀ (n : Nat) (acc : Bl), Sh (blkP n acc)
  | 0, _ => .fail _ (fun q => nomatch q)
  | n + 1, acc => .bind (sh_little.bind fun _ => .ret _) fun h => .ite (.fail _ (fun q => nomatch q)) (sh_take.bind fun _ => .ite (.ret _) (sh_blk n _))
theorem sh_skipM {m : Nat} : Sh (skipM m) := .ite (.bind (sh_little.bind fun _ => sh_take) fun _ => .ret _) (.fail _ (fun q => nomatch q))
theorem sh_frameM {N m : Nat} {first : Bool} : Sh (frameM N first m) := .ite (.fail _ (fun q => nomatch q)) (.ite (sh_skipM.bind fun _ => .ret _) (sh_hdrM.bind fun h => (sh_blk N []).bind fun b => .ite (sh_little.bind fun _ => .ret _) (.ret _)))
theorem sh_measP {N : Nat} : Sh (measP N true) := .get _ _ fun _ => sh_frameM
end Mine
namespace Mine
set_option genSizeOf false
set_option genInjectivity false
open PySem PySem.W PySem.Calls PyProof.Rows

/-! ## steps of the plain part -/
theorem Binds.ofD {K : Frag} {a : Addr} {dvs : List Value} (n : Nat) (hn : (pnames K a).length = n + dvs.length) (h : ∀ s : Shared, K.In s.heap → AllL (fun vals => BindsTo s (fdAt K a) ⟨vals, []⟩ ((pnames K a).zip (vals ++ dvs))) n) : Binds K a dvs := fun s vals X hl =>
  (h s X).of (Nat.add_right_cancel (hl.trans hn))
theorem guard_of {c : Bool} {p : Prop} (h : c = true) (k : p) : Gd c p := by subst h; exact k
theorem need_of {α : Type} {o : Option α} {k : α → Prop} {a : α} (h : o = some a) (p : k a) : Nd o k := by subst h; exact p
theorem br_t {c : Bool} {A B : Prop} (h : c = true) (a : A) : Br c A B := by subst h; exact a
theorem br_f {c : Bool} {A B : Prop} (h : c = false) (b : B) : Br c A B := by subst h; exact b
theorem at_ {α : Type} {P : α → Prop} {x y : α} (e : x = y) (h : P y) : P x := e ▸ h
theorem ble_of {a b : Nat} (h : a ≤ b) : Nat.ble a b = true := Nat.ble_eq_true_of_le h
@[irreducible] def wJ (P : PS) : PS := P
theorem join {σ : Type} (en : σ → List (Option D) × List MO) {P : PS} {ρ μ Nx Rt Ex} (h : ∀ C : List (Option D) → List MO → Prop, (∀ s, C (en s).1 (en s).2) → P ρ μ C Rt Ex) (k : ∀ s, Nx (en s).1 (en s).2) : wJ P ρ μ Nx Rt Ex := by
  unfold wJ; exact h _ k
@[irreducible] def eJ (P : PE) : PE := P
theorem join_e {σ : Type} (en : σ → D × List MO) {P : PE} {ρ : List (Option D)} {μ : List MO} {Q : D → List MO → Prop} {Ex} (h : ∀ C : D → List MO → Prop, (∀ s, C (en s).1 (en s).2) → P ρ μ C Ex) (k : ∀ s, Q (en s).1 (en s).2) : eJ P ρ μ Q Ex := by
  unfold eJ; exact h _ k
@[irreducible] def tJ (T : T2) : T2 := T
theorem tJ_of {T : T2} {μ : List MO} {d e : D} {Q : D → Prop} (h : T μ d e Q) : tJ T μ d e Q := by unfold tJ; exact h
theorem while_st {σ : Type} (ms : σ → Nat) (en : σ → List (Option D) × List MO) {T : PT} {P : PS} {Nx : List (Option D) → List MO → Prop} {Rt : D → List MO → Prop} {Ex : Exn → List MO → Prop}
    (hs : ∀ s (C : List (Option D) → List MO → Prop), (∀ s', ms s' < ms s → C (en s').1 (en s').2) → T (en s).1 (en s).2 (fun c μ' => br c (P (en s).1 μ' C Rt Ex) (Nx (en s).1 μ')) Ex) (s : σ) : wWhile T P (en s).1 (en s).2 Nx Rt Ex := by
  unfold wWhile
  refine ⟨fun n ρ μ => ∃ s, ms s = n ∧ en s = (ρ, μ), ⟨_, s, rfl, rfl⟩, ?_⟩
  rintro _ ρ μ ⟨s, rfl, e⟩
  have h := hs s (fun ρ' μ'' => ∃ m, m < ms s ∧ ∃ s', ms s' = m ∧ en s' = (ρ', μ'')) fun s' h => ⟨_, h, s', rfl, rfl⟩
  rw [e] at h; exact h
section
variable {T : PG} {P : PS} {Nx : List (Option D) → List MO → Prop} {Rt : D → List MO → Prop} {Ex : Exn → List MO → Prop}
theorem for_ix {ds : List D} {σ : Nat → Type} (en : (i : Nat) → σ i → List (Option D) × List MO) (hs : ∀ i (s : σ i) d (C : List (Option D) → List MO → Prop), ds[i]? = some d → (∀ s' : σ (i + 1), C (en _ s').1 (en _ s').2) → T d (en i s).1 fun ρ' => P ρ' (en i s).2 C Rt Ex)
    (h0 : ∀ s : σ ds.length, Nx (en _ s).1 (en _ s).2) (s : σ 0) : forT T P ds (en 0 s).1 (en 0 s).2 Nx Rt Ex := by
  induction ds generalizing σ with
  | nil => exact h0 s
  | cons d r ih => exact hs 0 s d (fun ρ μ => forT T P r ρ μ Nx Rt Ex) rfl fun s' => ih (fun i => en (i + 1)) (fun i s d C e => hs (i + 1) s d C e) h0 s'
theorem range_at {n i : Nat} {d : D} (h : (rangeD n)[i]? = some d) : i < n ∧ d = .int (.ofNat i) := by
  unfold rangeD at h
  rw [List.getElem?_map] at h
  obtain ⟨j, g, rfl⟩ := Option.map_eq_some_iff.mp h
  obtain ⟨hl, g⟩ := List.getElem?_eq_some_iff.mp g
  rw [List.getElem_range] at g
  subst g
  rw [List.length_range] at hl
  exact ⟨hl, rfl⟩
theorem range_len (n : Nat) : (rangeD n).length = n := by unfold rangeD; rw [List.length_map, List.length_range]
theorem for_range {n : Nat} {σ : Nat → Type} (en : (i : Nat) → σ i → List (Option D) × List MO) (hs : ∀ i (s : σ i) (C : List (Option D) → List MO → Prop), i < n → (∀ s' : σ (i + 1), C (en _ s').1 (en _ s').2) → T (.int (.ofNat i)) (en i s).1 fun ρ' => P ρ' (en i s).2 C Rt Ex)
    (h0 : ∀ s : σ n, Nx (en _ s).1 (en _ s).2) (s : σ 0) : forT T P (rangeD n) (en 0 s).1 (en 0 s).2 Nx Rt Ex :=
  for_ix en (fun i s d C e => by rw [(range_at e).2]; exact hs i s C (range_at e).1) (by rw [range_len]; exact h0) s
theorem for_map {α : Type} {f : α → D} {as : List α} {σ : Nat → Type} (en : (i : Nat) → σ i → List (Option D) × List MO) (hs : ∀ i (s : σ i) a (C : List (Option D) → List MO → Prop), as[i]? = some a → (∀ s' : σ (i + 1), C (en _ s').1 (en _ s').2) → T (f a) (en i s).1 fun ρ' => P ρ' (en i s).2 C Rt Ex)
    (h0 : ∀ s : σ as.length, Nx (en _ s).1 (en _ s).2) (s : σ 0) : forT T P (as.map f) (en 0 s).1 (en 0 s).2 Nx Rt Ex :=
  for_ix en (fun i s d C e => by
    rw [List.getElem?_map] at e
    obtain ⟨a, g, rfl⟩ := Option.map_eq_some_iff.mp e
    exact hs i s a C g) (by rw [List.length_map]; exact h0) s
theorem enum_at : ∀ {l : List UInt8} {k i : Nat} {d : D}, (enumD k l)[i]? = some d → ∃ c, l[i]? = some c ∧ d = .tup [.int (.ofNat (k + i)), .int (.ofNat c.toNat)]
  | c :: l, k, 0, d, h => ⟨c, rfl, (Option.some.inj h).symm⟩
  | c :: l, k, i + 1, d, h => by
    obtain ⟨c, h1, h2⟩ := enum_at (l := l) (k := k + 1) (i := i) h
    exact ⟨c, h1, by rw [h2, Nat.add_right_comm]; rfl⟩
theorem enum_0 {l : List UInt8} {i : Nat} {d : D} (h : (enumD 0 l)[i]? = some d) : ∃ c, l[i]? = some c ∧ d = .tup [.int (.ofNat i), .int (.ofNat c.toNat)] := by
  have := enum_at h; rwa [Nat.zero_add] at this
end
theorem not_t {c : Bool} (h : (!c) = true) : c = false := by cases c with
  | true => exact nomatch h
  | false => rfl
theorem not_f {c : Bool} (h : (!c) = false) : c = true := by cases c with
  | true => rfl
  | false => exact nomatch h
theorem and_i {a b : Bool} (h : a = true) (g : b = true) : (a && b) = true := by rw [h, g]; rfl
section
variable {T : PG} {C : PT} {P : PE} {K : List D → List MO → Prop}
/-- what a turn of a comprehension comes to -/
abbrev compK (C : PT) (P : PE) (acc : List D) (μ : List MO) (Z : List D → List (Option D) → List MO → Prop) : List (Option D) → Prop :=
  fun ρ' => C ρ' μ (fun ok μ' => br ok (P ρ' μ' (fun y μ'' => Z (acc ++ [y]) ρ' μ'') (fun _ _ => False)) (Z acc ρ' μ')) (fun _ _ => False)
theorem comp_ix {ds : List D} {σ : Nat → Type} (en : (i : Nat) → σ i → List D × List (Option D) × List MO) (hs : ∀ i (s : σ i) d (Z : List D → List (Option D) → List MO → Prop), ds[i]? = some d → (∀ s' : σ (i + 1), Z (en _ s').1 (en _ s').2.1 (en _ s').2.2) → T d (en i s).2.1 (compK C P (en i s).1 (en i s).2.2 Z))
    (h0 : ∀ s : σ ds.length, K (en _ s).1 (en _ s).2.2) (s : σ 0) : compT T C P K ds (en 0 s).1 (en 0 s).2.1 (en 0 s).2.2 := by
  induction ds generalizing σ with
  | nil => exact h0 s
  | cons d r ih => exact hs 0 s d (fun acc ρ μ => compT T C P K r acc ρ μ) rfl fun s' => ih (fun i => en (i + 1)) (fun i s d C e => hs (i + 1) s d C e) h0 s'
theorem comp_range {n : Nat} {σ : Nat → Type} (en : (i : Nat) → σ i → List D × List (Option D) × List MO) (hs : ∀ i (s : σ i) (Z : List D → List (Option D) → List MO → Prop), i < n → (∀ s' : σ (i + 1), Z (en _ s').1 (en _ s').2.1 (en _ s').2.2) → T (.int (.ofNat i)) (en i s).2.1 (compK C P (en i s).1 (en i s).2.2 Z))
    (h0 : ∀ s : σ n, K (en _ s).1 (en _ s).2.2) (s : σ 0) : compT T C P K (rangeD n) (en 0 s).1 (en 0 s).2.1 (en 0 s).2.2 :=
  comp_ix en (fun i s d C e => by rw [(range_at e).2]; exact hs i s C (range_at e).1) (by rw [range_len]; exact h0) s
theorem comp_map {α : Type} {f : α → D} {as : List α} {σ : Nat → Type} (en : (i : Nat) → σ i → List D × List (Option D) × List MO) (hs : ∀ i (s : σ i) a (Z : List D → List (Option D) → List MO → Prop), as[i]? = some a → (∀ s' : σ (i + 1), Z (en _ s').1 (en _ s').2.1 (en _ s').2.2) → T (f a) (en i s).2.1 (compK C P (en i s).1 (en i s).2.2 Z))
    (h0 : ∀ s : σ as.length, K (en _ s).1 (en _ s).2.2) (s : σ 0) : compT T C P K (as.map f) (en 0 s).1 (en 0 s).2.1 (en 0 s).2.2 :=
  comp_ix en (fun i s d C e => by
    rw [List.getElem?_map] at e
    obtain ⟨a, g, rfl⟩ := Option.map_eq_some_iff.mp e
    exact hs i s a C g) (by rw [List.length_map]; exact h0) s
end

/-! ## readers -/
abbrev Buf := { l : List UInt8 // l.length ≤ 16777216 }
structure Cur (L : Buf) where
  i : Nat
  hi : i ≤ L.1.length
section
variable {L : Buf} {α β : Type}
def Cur.adv (c : Cur L) (n : Nat) : Cur L := ⟨min (c.i + n) L.1.length, Nat.min_le_right _ _⟩
def Rn : Pr α → Cur L → (α → Cur L → Prop) → (Exn → Prop) → Prop
  | .ret a, c, K, _ => K a c
  | .fail e, _, _, E => E e
  | .get n e k, c, K, E => br (decide (L.1.length - c.i < n)) (E e) (Rn (k ((L.1.drop c.i).take n)) (c.adv n) K E)
theorem Rn_mono {p : Pr α} {c : Cur L} {K K' : α → Cur L → Prop} {E E' : Exn → Prop} (h : Rn p c K E) (k : ∀ a c, K a c → K' a c) (ke : ∀ e, E e → E' e) : Rn p c K' E' := by
  induction p generalizing c with
  | ret a => exact k _ _ h
  | fail e => exact ke _ h
  | get n e f ih => exact br_map h (fun _ => ke e) fun _ h => ih _ h
theorem Rn_ge {p : Pr α} {c : Cur L} {K K' : α → Cur L → Prop} {E E' : Exn → Prop} (h : Rn p c K E) (k : ∀ a c', c.i ≤ c'.i → K a c' → K' a c') (ke : ∀ e, E e → E' e) : Rn p c K' E' := by
  induction p generalizing c with
  | ret a => exact k _ _ (Nat.le_refl _) h
  | fail e => exact ke _ h
  | get n e f ih => exact br_map h (fun _ => ke e) fun _ h => ih _ h fun a c' hc => k a c' (Nat.le_trans (Nat.le_min.mpr ⟨Nat.le_add_right _ _, c.hi⟩) hc)
theorem Rn_bind {p : Pr α} {f : α → Pr β} {c : Cur L} {K : β → Cur L → Prop} {E : Exn → Prop} (h : Rn (p.bind f) c K E) : Rn p c (fun a c => Rn (f a) c K E) E := by
  induction p generalizing c with
  | ret a => exact h
  | fail e => exact h
  | get n e f ih => exact br_map h (fun _ h => h) fun _ h => ih _ h
theorem Rn_if {p q : Pr α} {P : Prop} [d : Decidable P] {c : Cur L} {K : α → Cur L → Prop} {E : Exn → Prop} (h : Rn (if P then p else q) c K E) : br (decide P) (Rn p c K E) (Rn q c K E) := by
  cases d with
  | isTrue _ => exact h
  | isFalse _ => exact h
theorem Rn_cond {γ : Type} {p q : Pr α} {p' q' : Pr γ} {P : Prop} [d : Decidable P] {c c' : Cur L} {K : α → Cur L → Prop} {K' : γ → Cur L → Prop} {E E' : Exn → Prop} (h : Rn (if P then p else q) c K E) (f : P → Rn p c K E → Rn p' c' K' E') (g : ¬ P → Rn q c K E → Rn q' c' K' E') : Rn (if P then p' else q') c' K' E' := by
  cases d with
  | isTrue e => exact f e h
  | isFalse e => exact g e h
theorem Rn_t {p q : Pr α} {P : Prop} [d : Decidable P] {c : Cur L} {K : α → Cur L → Prop} {E : Exn → Prop} (h : Rn (if P then p else q) c K E) (k : P) : Rn p c K E := (if_pos k : (if P then p else q) = p) ▸ h
theorem Rn_f {p q : Pr α} {P : Prop} [d : Decidable P] {c : Cur L} {K : α → Cur L → Prop} {E : Exn → Prop} (h : Rn (if P then p else q) c K E) (k : ¬ P) : Rn q c K E := (if_neg k : (if P then p else q) = q) ▸ h
theorem Rn_oct {c : Cur L} {K K' : Nat → Cur L → Prop} {E E' : Exn → Prop} (h : Rn octP c K E) (k : ∀ x c, x < 256 → K x c → K' x c) (ke : ∀ e, E e → E' e) : Rn octP c K' E' := br_map h (fun _ => ke _) fun _ h => k _ _ (UInt8.toNat_lt _) h
theorem Cur.ext {c c' : Cur L} (h : c.i = c'.i) : c = c' := by cases c; cases c'; cases h; rfl
theorem Rn_of {p : Pr α} {c : Cur L} {K : α → Cur L → Prop} {E : Exn → Prop} (hk : ∀ a n, p.run (L.1.drop c.i) = .ok a n → K a (c.adv n)) (he : ∀ e, p.run (L.1.drop c.i) = .err e → E e) : Rn p c K E := by
  induction p generalizing c with
  | ret a =>
    have h := hk a 0 rfl
    rwa [show c.adv 0 = c from Cur.ext (Nat.min_eq_left c.hi)] at h
  | fail e => exact he e rfl
  | get n e f ih =>
    refine br_of (fun h => he e ?_) fun h => ?_
    · have h := of_decide_eq_true h
      exact if_neg (by rw [List.length_drop]; exact Nat.not_le.mpr h)
    · have h := Nat.le_of_not_lt (of_decide_eq_false h)
      have ha : (c.adv n).i = c.i + n := Nat.min_eq_left (by have := c.hi; lia)
      have hr : (Pr.get n e f).run (L.1.drop c.i) = ((f ((L.1.drop c.i).take n)).run (L.1.drop (c.adv n).i)).add n := by
        rw [ha, ← List.drop_drop]
        exact if_pos (by rw [List.length_drop]; exact h)
      refine ih _ (fun a m q => ?_) fun e q => he e (by rw [hr, q]; rfl)
      have h := hk a (n + m) (by rw [hr, q]; rfl)
      rwa [show (c.adv n).adv m = c.adv (n + m) from Cur.ext (by show min ((c.adv n).i + m) _ = _; rw [ha, Nat.add_assoc]; rfl)]
end
def octI (L : Buf) (q : Int) : MO := .inst .octets [.bytes L.1, .int (.ofNat L.1.length), .int q]
abbrev octC {L : Buf} (c : Cur L) : MO := octI L (.ofNat c.i)
/-- a reader's contract: from a cursor and an argument -/
abbrev kRd {γ α : Type} (p : γ → Pr α) (en : α → D) : PK ((L : Buf) × Cur L × γ) := fun x Q Ex => Rn (p x.2.2) x.2.1 (fun a c => Q (en a) [octC c]) (fun e => ∀ q : Int, Ex e [octI x.1 q])
abbrev cuC {L : Buf} (c : Cur L) : (L : Buf) × Cur L × Unit := ⟨L, c, ()⟩
abbrev cuN {γ : Type} {L : Buf} (c : Cur L) (n : γ) : (L : Buf) × Cur L × γ := ⟨L, c, n⟩
theorem cut_len {L : Buf} {c : Cur L} {n : Nat} (h : decide (L.1.length - c.i < n) = false) : ((L.1.drop c.i).take n).length = n := by
  rw [List.length_take, List.length_drop]; exact Nat.min_eq_left (Nat.le_of_not_lt (of_decide_eq_false h))
theorem adv_i {L : Buf} {c : Cur L} {n : Nat} (h : decide (L.1.length - c.i < n) = false) : (c.adv n).i = c.i + n :=
  Nat.min_eq_left (Nat.add_comm _ _ ▸ Nat.add_le_of_le_sub c.hi (Nat.le_of_not_lt (of_decide_eq_false h)))
def eCur (x : (L : Buf) × Cur L × Unit) : List D × List MO := ([.hi 0 .octets], [octC x.2.1])
def eCuN (x : (L : Buf) × Cur L × Nat) : List D × List MO := ([.hi 0 .octets, .int (.ofNat x.2.2)], [octC x.2.1])
end Mine
namespace Mine
set_option genSizeOf false
set_option genInjectivity false
open PySem PySem.W PySem.Calls PyProof.Rows
section
variable {prog : Program} {w : World} {h₀ : Heap} {mg mb : Str → Option Value} {tabs : List (Addr × Addr)} {tq : Addr → Str}
local macro_rules
  | `(tactic| walk_at "wh") => `(tactic| (refine' (?vcf : Lk _ _) ?vcu; (case vcu => ((conv => rhs; whnf); first | done | exact rfl)); intro vch; refine' (?vck : Lj _ _) vch ?vcm; (case vck => exact fun _ x => x); clear vch))
  | `(tactic| walk_at "t") => `(tactic| (walk_at "wh"; refine br_t ?_ ?_))
  | `(tactic| walk_at "f") => `(tactic| (walk_at "wh"; refine br_f ?_ ?_))
  | `(tactic| walk_at "fd") => `(tactic| (refine' (?vcf : Lk _ _) ?vcu; (case vcu => ((conv => rhs; arg 2; whnf); first | done | exact rfl)); intro vch; refine' (?vck : Lj _ _) vch ?vcm; (case vck => exact fun _ x => x); clear vch))
  | `(tactic| walk_at "gd") => `(tactic| (walk_at "wh"; refine guard_of ?_ ?_))
def eNat (n : Nat) : List D × List MO := ([.int (.ofNat n)], [])
abbrev cNeed : PF := sp eNat fun n Q _ => Q .none []
/-- octets, a start -/
def eEnd (x : (L : Buf) × Cur L) : List D × List MO := ([.bytes x.1.1, .int (.ofNat x.2.i), .none], [])
abbrev cEnd : PF := sp eEnd fun x Q _ => Q (.int (.ofNat x.1.1.length)) []
abbrev ILe := { l : List UInt8 // l.length ≤ 1000 }
abbrev cLeft : PF := sp eCur fun x Q _ => Q (.int (.ofNat (x.1.1.length - x.2.1.i))) [octC x.2.1]
abbrev cTake : PF := sp eCuN (kRd takeP .bytes)
abbrev cOct : PF := sp eCur (kRd (fun _ => octP) fun n => .int (.ofNat n))
def eBytes (l : List UInt8) : List D × List MO := ([.bytes l], [])
abbrev cLe : PF := sp (fun l : ILe => eBytes l.1) fun l Q _ => Q (.int (.ofNat (le l.1))) []
abbrev cLit : PF := sp (fun x : (L : Buf) × Cur L × { n : Nat // n ≤ 1000 } => eCuN ⟨x.1, x.2.1, x.2.2.1⟩) (kRd (fun n => littleP n.1) fun n => .int (.ofNat n))
abbrev ICur := (L : Buf) × Cur L
abbrev cInitO : PF := sp (fun x : (L : Buf) × Cur L => ([.hi 0 .octets, .bytes x.1.1, .int (.ofNat x.2.i)], [.inst .octets []])) fun x Q _ => Q .none [octC x.2]
abbrev cInitO1 : PF := sp (fun L : Buf => ([.hi 0 .octets, .bytes L.1], [.inst .octets []])) fun L Q _ => Q .none [octI L (.ofNat 0)]
theorem take_eq {l : List UInt8} {i n : Nat} : cutX l (some (Int.ofNat (i + n) - Int.ofNat n)) (some (.ofNat (i + n))) = (l.drop i).take n := by
  rw [show Int.ofNat (i + n) - Int.ofNat n = Int.ofNat i from Int.add_sub_cancel (i : Int) (n : Int)]
  show (l.drop i).take (i + n - i) = _
  rw [Nat.add_sub_cancel_left]
theorem le_snoc (l : List UInt8) (c : UInt8) : le (l ++ [c]) = le l + c.toNat * 2 ^ (8 * l.length) := by
  induction l with
  | nil => show c.toNat + 256 * 0 = 0 + c.toNat * 1; rw [Nat.mul_zero, Nat.add_zero, Nat.mul_one, Nat.zero_add]
  | cons a l ih => rw [List.cons_append, le, le, ih, List.length_cons, Nat.mul_succ, Nat.pow_add, Nat.mul_add, ← Nat.add_assoc, ← Nat.mul_assoc c.toNat, Nat.mul_comm _ (2 ^ 8)]
theorem le_lt : ∀ (l : List UInt8), le l < 2 ^ (8 * l.length)
  | [] => Nat.one_pos
  | b :: r => by
    have := le_lt r
    have hb := b.toNat_lt
    rw [le, List.length_cons, Nat.mul_succ, Nat.pow_add]
    lia
theorem le_step {l : List UInt8} {i : Nat} {c : UInt8} (h : l[i]? = some c) : le (l.take i) ||| (c.toNat * 2 ^ (8 * i)) = le (l.take (i + 1)) := by
  obtain ⟨hl, hc⟩ := List.getElem?_eq_some_iff.mp h
  have hi : (l.take i).length = i := by rw [List.length_take]; exact Nat.min_eq_left (Nat.le_of_lt hl)
  have h1 := le_lt (l.take i)
  have h2 := le_snoc (l.take i) c
  rw [hi] at h1 h2
  rw [List.take_add_one, h, Option.toList_some, h2, Nat.or_comm, Nat.mul_comm, ← Nat.two_pow_add_eq_or_of_lt h1, Nat.add_comm]
theorem enum_len : ∀ (l : List UInt8) (k : Nat), (enumD k l).length = l.length
  | [], _ => rfl
  | c :: l, k => congrArg (· + 1) (enum_len l (k + 1))
theorem at_left {Q : Int → Prop} {a b : Nat} (h : b ≤ a) (q : Q (.ofNat (a - b))) : Q (Int.ofNat a - Int.ofNat b) := (Int.ofNat_sub h : Int.ofNat (a - b) = Int.ofNat a - Int.ofNat b) ▸ q
theorem bind_oi : Binds ((GG prog w h₀ mg mb tabs tq)).K 150 [.none] := .ofD 3 rfl fun s X _ _ _ => by
  show BindsTo _ _ _ _
  walk_at "fd"
  exact binds_K X rfl rfl rfl rfl rfl
theorem bind_oi1 : Binds ((GG prog w h₀ mg mb tabs tq)).K 150 [.int 0 361, .none] := .ofD 2 rfl fun s X _ _ => by
  show BindsTo _ _ _ _
  walk_at "fd"
  exact binds_K X rfl rfl rfl rfl rfl
theorem c_need (O : ((GG prog w h₀ mg mb tabs tq)).Ok) : FK (GG prog w h₀ mg mb tabs tq) 2 121 cNeed :=
  FV_ct (LX O []) (defS 1 [] 0 (wSeq (wIf (tOr (tNot (tTrue (tBi (l1 (tVar 0) (l1 (tD (.ty .int)) l0)) tIsi))) (tOr (tTrue (tBi (l1 (tVar 0) (l1 (tD (.ty .bool)) l0)) tIsi)) (tOr (tTrue (t2 (tVar 0) (tD (.int 0)) oLt)) (tB false)))) (wSeq (wRaise .badarg (tD (.str "a count below 0"))) wSkip) wSkip) wSkip)) [] [] rfl (.simple rfl) (fun _ _ _ _ _ => .nil) fun n Q Ex h => by
    walk_at "wh"
    exact h
theorem c_end (O : ((GG prog w h₀ mg mb tabs tq)).Ok) : FK (GG prog w h₀ mg mb tabs tq) 2 128 cEnd :=
  FV_ct (LX O []) (defS 3 [] 1 (wSeq (wSet 3 (tIf (tTrue (t2 (tVar 2) (tD .none) oIs)) (tBi (l1 (tVar 0) l0) tLen) (tVar 2))) (wSeq (wIf (tNot (tChain (tD (.int 0)) (c2 (tVar 1) oLe (c2 (tVar 3) oLe (c1 (tBi (l1 (tVar 0) l0) tLen) oLe))))) (wSeq (wRaise .badarg (tD (.str "a part that the octets do not have"))) wSkip) wSkip) (wSeq (wRet (tVar 3)) wSkip)))) [] [] rfl (.simple rfl) (fun _ _ _ _ _ => .nil) fun x Q Ex h => by
    walk_at "gd"
    · exact ble_of (Nat.le_trans x.1.2 (by decide))
    walk_at "t"
    · exact decide_eq_true x.2.hi
    walk_at "gd"
    · exact ble_of (Nat.le_trans x.1.2 (by decide))
    walk_at "f"
    · exact congrArg not (decide_eq_true (Nat.le_refl _))
    walk_at "wh"
    exact h
theorem c_left (O : ((GG prog w h₀ mg mb tabs tq)).Ok) : FK (GG prog w h₀ mg mb tabs tq) 1 157 cLeft :=
  FV_ct (LX O []) (defS 1 [] 0 (wSeq (wRet (t2 (tAttr .octets 1 (tVar 0)) (tAttr .octets 2 (tVar 0)) oSub)) wSkip)) [] [] rfl (.simple rfl) (fun _ _ _ _ _ => .nil) fun x Q Ex h => by
    walk_at "wh"
    exact at_left (Q := fun z => Q (.int z) [octC x.2.1]) x.2.1.hi h
theorem c_take (O : ((GG prog w h₀ mg mb tabs tq)).Ok) (h_need_count : FK (GG prog w h₀ mg mb tabs tq) 2 121 cNeed) (h_Octets_left : FK (GG prog w h₀ mg mb tabs tq) 1 157 cLeft) : FK (GG prog w h₀ mg mb tabs tq) 3 171 cTake :=
  FV_ct (LX O [⟨121, .fv 2 _ h_need_count⟩, ⟨157, .fv 1 _ h_Octets_left⟩]) (defS 2 [] 0 (wSeq (wExp (tCall (l1 (tVar 1) l0) cNeed)) (wSeq (wIf (tTrue (t2 (tVar 1) (tMeth .octets (tVar 0) l0 cLeft) oGt)) (wSeq (wRaise .short (tD (.str "octets"))) wSkip) wSkip) (wSeq (wAugAttr .octets 2 (tVar 0) (tVar 1) oAdd) (wSeq (wRet (tCut (tAttr .octets 0 (tVar 0)) (t2 (tAttr .octets 2 (tVar 0)) (tVar 1) oSub) (tAttr .octets 2 (tVar 0)))) wSkip))))) [] [] rfl (.simple rfl) (fun _ _ _ _ _ => .nil) fun x Q Ex h => by
    walk_at "wh"
    refine .mk x.2.2 ?_
    walk_at "wh"
    refine .mk (cuC x.2.1) ?_
    walk_at "wh"
    refine br_map h (fun _ h => ?_) (fun hc h => ?_)
    · walk_at "wh"
      exact h _
    · walk_at "gd"
      · exact ble_of x.1.2
      walk_at "wh"
      exact at_ (P := fun a => Q (.bytes a) [octI x.1 (.ofNat (x.2.1.i + x.2.2))]) take_eq (at_ (P := fun j => Q (.bytes _) [octI x.1 (.ofNat j)]) (adv_i hc).symm h)
theorem c_octet (O : ((GG prog w h₀ mg mb tabs tq)).Ok) (h_Octets_take : FK (GG prog w h₀ mg mb tabs tq) 3 171 cTake) : FK (GG prog w h₀ mg mb tabs tq) 4 185 cOct :=
  FV_ct (LX O [⟨171, .fv 3 _ h_Octets_take⟩]) (defS 1 [] 0 (wSeq (wRet (t2 (tMeth .octets (tVar 0) (l1 (tD (.int 1)) l0) cTake) (tD (.int 0)) tItem)) wSkip)) [] [] rfl (.simple rfl) (fun _ _ _ _ _ => .nil) fun x Q Ex h => by
    walk_at "wh"
    refine .mk (cuN x.2.1 1) (br_map h (fun _ h => h) fun hc h => ?_)
    walk_at "wh"
    exact ⟨Nat.lt_of_lt_of_eq Nat.one_pos (cut_len hc).symm, Nat.le_trans (Nat.le_of_eq (cut_len hc)) (by decide : 1 ≤ 16777216), h⟩
theorem c_le (O : ((GG prog w h₀ mg mb tabs tq)).Ok) : FK (GG prog w h₀ mg mb tabs tq) 2 135 cLe :=
  FV_ct (LX O []) (defS 1 [] 3 (wSeq (wSet 1 (tD (.int 0))) (wSeq (wFor (iEnum (tVar 0)) (gT [2, 3]) (wSeq (wAug 1 (t2 (tVar 3) (t2 (tD (.int 8)) (tVar 2) oMulL) oShl) oOr) wSkip)) (wSeq (wRet (tVar 1)) wSkip)))) [] [] rfl (.simple rfl) (fun _ _ _ _ _ => .nil) fun x Q Ex h => by
    walk_at "wh"
    refine for_ix (σ := fun i => { s : Nat × Option D × Option D // s.1 = le (x.1.take i) }) (fun i s => ([some (.bytes x.1), some (.int (.ofNat s.1.1)), s.1.2.1, s.1.2.2], [])) (fun i s d C e hC => ?_) (fun s => ?_) ⟨(0, none, none), rfl⟩
    · obtain ⟨c, g, rfl⟩ := enum_0 e
      walk_at "gd"
      · exact and_i (ble_of (Nat.le_trans (Nat.mul_le_mul_left 8 (Nat.le_trans (Nat.le_of_lt (List.getElem?_eq_some_iff.mp g).1) x.2)) (by decide))) (ble_of (Nat.le_trans (Nat.le_of_lt c.toNat_lt) (by decide)))
      · walk_at "wh"
        exact hC ⟨(_, _, _), (congrArg (· ||| c.toNat * 2 ^ (8 * i)) s.2).trans (le_step g)⟩
    · walk_at "wh"
      refine at_ (P := fun z => Q (.int (.ofNat z)) []) (s.2.trans ?_) h
      rw [enum_len, List.take_length]
theorem c_little (O : ((GG prog w h₀ mg mb tabs tq)).Ok) (h_Octets_take : FK (GG prog w h₀ mg mb tabs tq) 3 171 cTake) (h_from_little : FK (GG prog w h₀ mg mb tabs tq) 2 135 cLe) : FK (GG prog w h₀ mg mb tabs tq) 4 192 cLit :=
  FV_ct (LX O [⟨171, .fv 3 _ h_Octets_take⟩, ⟨135, .fv 2 _ h_from_little⟩]) (defS 2 [] 0 (wSeq (wRet (tCall (l1 (tMeth .octets (tVar 0) (l1 (tVar 1) l0) cTake) l0) cLe)) wSkip)) [] [] rfl (.simple rfl) (fun _ _ _ _ _ => .nil) fun x Q Ex h => by
    walk_at "wh"
    refine .mk (cuN x.2.1 x.2.2.1) (br_map h (fun _ h => h) fun hc h => ?_)
    walk_at "wh"
    exact .mk (⟨_, Nat.le_trans (Nat.le_of_eq (cut_len hc)) x.2.2.2⟩ : ILe) h
theorem c_oi (O : ((GG prog w h₀ mg mb tabs tq)).Ok) (h_end_of : FK (GG prog w h₀ mg mb tabs tq) 2 128 cEnd) : FK (GG prog w h₀ mg mb tabs tq) 3 150 cInitO :=
  FV_ct (LX O [⟨128, .fv 2 _ h_end_of⟩]) (defS 4 [.none] 0 (wSeq (wAttr .octets 0 (tBi (l1 (tVar 1) l0) tBytes) (tVar 0)) (wSeq (wAttr .octets 1 (tCall (l1 (tAttr .octets 0 (tVar 0)) (l1 (tVar 2) (l1 (tVar 3) l0))) cEnd) (tVar 0)) (wSeq (wAttr .octets 2 (tVar 2) (tVar 0)) wSkip)))) [.none] [.none] rfl bind_oi (fun _ _ _ _ _ => .cons .none .nil) fun x Q Ex h => by
    walk_at "wh"
    refine .mk x ?_
    walk_at "wh"
    exact h
theorem c_oi1 (O : ((GG prog w h₀ mg mb tabs tq)).Ok) (h_end_of : FK (GG prog w h₀ mg mb tabs tq) 2 128 cEnd) : FK (GG prog w h₀ mg mb tabs tq) 3 150 cInitO1 :=
  FV_ct (LX O [⟨128, .fv 2 _ h_end_of⟩]) (defS 4 [.int 0, .none] 0 (wSeq (wAttr .octets 0 (tBi (l1 (tVar 1) l0) tBytes) (tVar 0)) (wSeq (wAttr .octets 1 (tCall (l1 (tAttr .octets 0 (tVar 0)) (l1 (tVar 2) (l1 (tVar 3) l0))) cEnd) (tVar 0)) (wSeq (wAttr .octets 2 (tVar 2) (tVar 0)) wSkip)))) [.int 0 361, .none] [.int 0, .none] rfl bind_oi1 (fun _ _ _ _ _ => .cons (.int _ _) (.cons .none .nil)) fun x Q Ex h => by
    walk_at "wh"
    refine .mk (⟨x, 0, Nat.zero_le _⟩ : ICur) ?_
    walk_at "wh"
    exact h
abbrev Byt := { x : Nat // x < 256 }
def eN (n : Nat) : List D × List MO := ([.int (.ofNat n)], [])
abbrev nD (n : Nat) : D := .int (.ofNat n)
abbrev cWin : PF := sp (fun x : Byt => eN x.1) fun x Q _ => Q (nD (win x.1)) []
abbrev cIsSk : PF := sp eN fun m Q _ => Q (.bool (decide (isSk m))) []
abbrev cChk : PF := sp eN fun m Q Ex => (isOld m → Ex .older []) ∧ (¬ isOld m → isFr m → Q .none []) ∧ (¬ isOld m → ¬ isFr m → Ex .header [])
abbrev cCnt : PF := sp (fun x : Byt => eN x.1) fun x Q Ex => br (decide (x.1 / 8 % 2 = 1)) (Ex .header []) (Q (.tup [nD (b2n (!decide (x.1 / 32 % 2 = 1))), nD (icnt x.1), nD (scnt x.1)]) [])
/-- fields for a new instance -/
abbrev Fl (n : Nat) := { l : List D // l.length = n ∧ clDs l = true }
abbrev cIni (c : Cls) (n : Nat) : PF := sp (fun l : Fl n => (.hi 0 c :: l.1, [.inst c []])) fun l Q _ => Q .none [.inst c l.1]
def initC (c : Cls) : Nat → Nat → PS
  | _, 0 => wSkip
  | i, n + 1 => wSeq (wAttr c i (tVar (i + 1)) (tVar 0)) (initC c (i + 1) n)
theorem clD_at : ∀ {l : List D} {i : Nat} {d : D}, clDs l = true → l[i]? = some d → clD d = true
  | _ :: _, 0, _, h, e => Option.some.inj e ▸ (and2 h).1
  | _ :: _, i + 1, _, h, e => clD_at (i := i) (and2 h).2 e
theorem same_self (c : Cls) : c.same c = true := by cases c <;> rfl
theorem init_run {c : Cls} {l : List D} {Nx Rt Ex} (hc : clDs l = true) (h : Nx (some (.hi 0 c) :: l.map some) [.inst c l]) : ∀ (n i : Nat), i + n = l.length → initC c i n (some (.hi 0 c) :: l.map some) [.inst c (l.take i)] Nx Rt Ex
  | 0, i, e => by
    rw [List.take_of_length_le (i := i) (Nat.le_of_eq e.symm)]; exact h
  | n + 1, i, e => by
    have hi : i < l.length := by lia
    have hd := List.getElem?_eq_getElem hi
    have ht : (l.take i).length = i := by rw [List.length_take]; exact Nat.min_eq_left (Nat.le_of_lt hi)
    refine need_of (a := l[i]) (by rw [show (some (D.hi 0 c) :: l.map some)[i + 1]? = (l.map some)[i]? from rfl, List.getElem?_map, hd]; rfl) ?_
    refine need_of (a := 0) (by show (match c.same c with | true => some 0 | false => Option.none) = _; rw [same_self]) ?_
    refine need_of (a := l.take i) (by show fldsOf c c _ = _; unfold fldsOf; rw [same_self]) ?_
    refine guard_of (clD_at hc hd) ?_
    refine need_of (a := l.take (i + 1)) ?_ (init_run hc h n (i + 1) (by lia))
    have h1 : Nat.ble (i + 1) i = false := by cases q : Nat.ble (i + 1) i with
      | false => rfl
      | true => exact absurd (Nat.le_of_ble_eq_true q) (Nat.not_succ_le_self i)
    unfold setF
    rw [ht, h1, Nat.beq_refl, List.take_add_one, hd]; rfl
theorem init_ct {c : Cls} {n : Nat} (x : Fl n) {Q : D → List MO → Prop} {Ex} (h : Q .none [.inst c x.1]) : defS (n + 1) [] 0 (initC c 0 n) (.hi 0 c :: x.1) [.inst c []] Q Ex :=
  guard_of (by show Nat.beq (x.1.length + 1 + 0) (n + 1) = true; rw [x.2.1]; exact Nat.beq_refl _) (by
    rw [List.append_nil, List.map_cons, List.replicate_zero, List.append_nil]
    exact init_run x.2.2 h n 0 (by rw [x.2.1, Nat.zero_add]))
def optD {α : Type} (f : α → D) : Option α → D
  | none => .none
  | some a => f a
abbrev onD : Option Nat → D := optD nD
abbrev Hd.fields (h : Hd) : List D := [onD h.window, onD h.size, nD h.ident, .bool h.checked, .bool h.single]
abbrev Hd.I (h : Hd) : D := .inst .fheader h.fields
abbrev Hd.T (h : Hd) : D := .tup h.fields
abbrev cTold : PF := sp (fun h : Hd => ([h.I], [])) fun h Q _ => Q h.T []
theorem or_l {a b : Bool} (h : a = true) : (a || b) = true := by rw [h]; rfl
theorem br_eq {c c' : Bool} {A B : Prop} (e : c = c') (h : br c' A B) : br c A B := by subst e; exact h
theorem winC (x : Nat) : 1 * 2 ^ (10 + x / 8) + 1 * 2 ^ (10 + x / 8) / 8 * (x &&& 7) = win x := by
  rw [Nat.one_mul, show x &&& 7 = x % 8 from Nat.and_two_pow_sub_one_eq_mod x 3]; rfl
theorem bit8 : ∀ x < 256, (!decide (x &&& 8 = 0)) = decide (x / 8 % 2 = 1) := by decide +kernel
theorem bit32 : ∀ x < 256, (!decide (x &&& 32 = 0)) = decide (x / 32 % 2 = 1) := by decide +kernel
theorem bit4 : ∀ x < 256, (!decide (x &&& 4 = 0)) = decide (x / 4 % 2 = 1) := by decide +kernel
theorem lt4 {n : Nat} (h : n < 4) : n = 0 ∨ n = 1 ∨ n = 2 ∨ n = 3 := by lia
theorem lt2 {n : Nat} (h : n < 2) : n = 0 ∨ n = 1 := by lia
theorem scnt_at {x : Nat} (h : x < 256) : [nD (b2n (!decide (x &&& 32 = 0))), .int 2, .int 4, .int 8][x / 64]? = some (nD (scnt x)) := by
  rw [bit32 x h]
  unfold scnt
  rcases lt4 (Nat.div_lt_of_lt_mul h : x / 64 < 4) with q | q | q | q <;> rw [q]
  · rcases lt2 (Nat.mod_lt (x / 32) (by decide : 0 < 2)) with z | z <;> rw [z] <;> rfl
  all_goals rfl
theorem icnt_at (x : Nat) : [D.int 0, .int 1, .int 2, .int 4][x &&& 3]? = some (nD (icnt x)) := by
  rw [show x &&& 3 = x % 4 from Nat.and_two_pow_sub_one_eq_mod x 2]
  unfold icnt
  rcases lt4 (Nat.mod_lt x (by decide : 0 < 4)) with q | q | q | q <;> rw [q] <;> rfl
theorem eq_t {n m : Nat} (h : negB false (eqI (.ofNat n) (.ofNat m)) = true) : n = m := of_decide_eq_true h
theorem eq_f {n m : Nat} (h : negB false (eqI (.ofNat n) (.ofNat m)) = false) : ¬ n = m := of_decide_eq_false h
theorem ne_t {n m : Nat} (h : negB true (eqI (.ofNat n) (.ofNat m)) = true) : ¬ n = m := of_decide_eq_false (not_t h)
theorem ne_f {n m : Nat} (h : negB true (eqI (.ofNat n) (.ofNat m)) = false) : n = m := of_decide_eq_true (not_f h)
theorem le_t {n m : Nat} (h : leI (.ofNat n) (.ofNat m) = true) : n ≤ m := of_decide_eq_true h
theorem le_f {n m : Nat} (h : leI (.ofNat n) (.ofNat m) = false) : ¬ n ≤ m := of_decide_eq_false h
theorem lt_t {n m : Nat} (h : ltI (.ofNat n) (.ofNat m) = true) : n < m := of_decide_eq_true h
theorem lt_f {n m : Nat} (h : ltI (.ofNat n) (.ofNat m) = false) : m ≤ n := Nat.le_of_not_lt (of_decide_eq_false h)
theorem frz_hd (n : Nat) (μ : List MO) (h : Hd) : frz n μ h.T = some h.T := by
  obtain ⟨w, s, i, c, g⟩ := h
  cases w <;> cases s <;> rfl
theorem nv_on : ∀ o : Option Nat, (onD o).notVal = true
  | none => rfl
  | some _ => rfl
theorem frz_on (n : Nat) (μ : List MO) : ∀ o : Option Nat, frz n μ (onD o) = some (onD o)
  | none => rfl
  | some _ => rfl
theorem bind_fh : Binds ((GG prog w h₀ mg mb tabs tq)).K 236 [] := .ofD 6 rfl fun s X _ _ _ _ _ _ => by
  show BindsTo _ _ _ _
  walk_at "fd"
  exact binds_K X rfl rfl rfl rfl rfl
theorem c_win (O : ((GG prog w h₀ mg mb tabs tq)).Ok) : FK (GG prog w h₀ mg mb tabs tq) 2 221 cWin :=
  FV_ct (LX O []) (defS 1 [] 1 (wSeq (wSet 1 (t2 (tD (.int 1)) (t2 (tD (.int 10)) (t2 (tVar 0) (tD (.int 3)) oShr) tPlus) oShl)) (wSeq (wRet (t2 (tVar 1) (t2 (t2 (tVar 1) (tD (.int 3)) oShr) (t2 (tVar 0) (tD (.int 7)) oAnd) oMul) tPlus)) wSkip))) [] [] rfl (.simple rfl) (fun _ _ _ _ _ => .nil) fun x Q Ex h => by
    walk_at "gd"
    · exact and_i (ble_of (Nat.le_trans (Nat.add_le_add_left (Nat.le_trans (Nat.div_le_self _ _) (Nat.le_of_lt x.2)) 10) (by decide))) rfl
    walk_at "gd"
    · exact or_l (ble_of (Nat.le_trans Nat.and_le_left (Nat.le_trans (Nat.le_of_lt x.2) (by decide))))
    walk_at "wh"
    exact at_ (P := fun z => Q (nD z) []) (winC x.1) h
theorem c_issk (O : ((GG prog w h₀ mg mb tabs tq)).Ok) : FK (GG prog w h₀ mg mb tabs tq) 2 257 cIsSk :=
  FV_ct (LX O []) (defS 1 [] 0 (wSeq (wRet (t2 (t2 (tVar 0) (tD (.int 4)) oShr) (t2 (tD (.int 407710288)) (tD (.int 4)) oShr) oEq)) wSkip)) [] [] rfl (.simple rfl) (fun _ _ _ _ _ => .nil) fun x Q Ex h => by
    walk_at "wh"
    exact h
theorem c_chk (O : ((GG prog w h₀ mg mb tabs tq)).Ok) : FK (GG prog w h₀ mg mb tabs tq) 2 264 cChk :=
  FV_ct (LX O []) (defS 1 [] 0 (wSeq (wIf (tOr (tTrue (t2 (tVar 0) (tD (.int 4247762206)) oEq)) (tOr (tChain (tD (.int 4247762210)) (c2 (tVar 0) oLe (c1 (tD (.int 4247762215)) oLe))) (tB false))) (wSeq (wRaise .older (tD (.str "a frame of an older format"))) wSkip) wSkip) (wSeq (wIf (tTrue (t2 (tVar 0) (tD (.int 4247762216)) tNeq)) (wSeq (wRaise .header (tD (.str "magic number"))) wSkip) wSkip) wSkip))) [] [] rfl (.simple rfl) (fun _ _ _ _ _ => .nil) fun x Q Ex h => by
    walk_at "wh"
    refine br_of (fun e => ?_) (fun e => ?_)
    · walk_at "wh"
      exact h.1 (.inl (eq_t e))
    · walk_at "wh"
      refine br_of (fun e1 => ?_) (fun e1 => ?_)
      · walk_at "wh"
        refine br_of (fun e2 => ?_) (fun e2 => ?_)
        · walk_at "wh"
          exact h.1 (.inr ⟨le_t e1, le_t e2⟩)
        · have nO : ¬ isOld x := fun q => q.elim (eq_f e) fun q => le_f e2 q.2
          walk_at "wh"
          refine br_of (fun e => ?_) (fun e => ?_)
          · walk_at "wh"
            exact h.2.2 nO (ne_t e)
          · walk_at "wh"
            exact h.2.1 nO (ne_f e)
      · have nO : ¬ isOld x := fun q => q.elim (eq_f e) fun q => le_f e1 q.1
        walk_at "wh"
        refine br_of (fun e => ?_) (fun e => ?_)
        · walk_at "wh"
          exact h.2.2 nO (ne_t e)
        · walk_at "wh"
          exact h.2.1 nO (ne_f e)
theorem c_cnt (O : ((GG prog w h₀ mg mb tabs tq)).Ok) : FK (GG prog w h₀ mg mb tabs tq) 2 271 cCnt :=
  FV_ct (LX O []) (defS 1 [] 2 (wSeq (wIf (tTrue (t2 (tVar 0) (tD (.int 8)) oAnd)) (wSeq (wRaise .header (tD (.str "reserved bit"))) wSkip) wSkip) (wSeq (wSet 1 (t2 (t2 (tVar 0) (tD (.int 32)) oAnd) (tD (.int 0)) tNeq)) (wSeq (wSet 2 (t2 (tTup (l1 (tBi (l1 (tVar 1) l0) tIntB) (l1 (tD (.int 2)) (l1 (tD (.int 4)) (l1 (tD (.int 8)) l0))))) (t2 (tVar 0) (tD (.int 6)) oShr) tItem)) (wSeq (wRet (tTup (l1 (tBi (l1 (vNot (tVar 1)) l0) tIntB) (l1 (t2 (tD (.tup [.int 0, .int 1, .int 2, .int 4])) (t2 (tVar 0) (tD (.int 3)) oAnd) tItem) (l1 (tVar 2) l0))))) wSkip))))) [] [] rfl (.simple rfl) (fun _ _ _ _ _ => .nil) fun x Q Ex h => by
    walk_at "wh"
    refine br_map (br_eq (bit8 x.1 x.2) h) (fun _ h => ?_) (fun _ h => ?_)
    · walk_at "wh"
      exact h
    · walk_at "wh"
      refine need_of (scnt_at x.2) ?_
      walk_at "wh"
      refine need_of (icnt_at x.1) ?_
      walk_at "wh"
      exact at_ (P := fun b => Q (.tup [nD (b2n (!b)), nD _, nD _]) []) (bit32 x.1 x.2) h
theorem c_fh (O : ((GG prog w h₀ mg mb tabs tq)).Ok) : FK (GG prog w h₀ mg mb tabs tq) 2 236 ((cIni .fheader 5)) :=
  FV_ct (LX O []) (defS 6 [] 0 (initC .fheader 0 5)) [] [] rfl bind_fh (fun _ _ _ _ _ => .nil) fun x Q Ex h => init_ct x h
theorem c_bh (O : ((GG prog w h₀ mg mb tabs tq)).Ok) : FK (GG prog w h₀ mg mb tabs tq) 2 292 ((cIni .bhead 3)) :=
  FV_ct (LX O []) (defS 4 [] 0 (initC .bhead 0 3)) [] [] rfl (.simple rfl) (fun _ _ _ _ _ => .nil) fun x Q Ex h => init_ct x h
theorem c_fs (O : ((GG prog w h₀ mg mb tabs tq)).Ok) : FK (GG prog w h₀ mg mb tabs tq) 2 334 ((cIni .fspan 4)) :=
  FV_ct (LX O []) (defS 5 [] 0 (initC .fspan 0 4)) [] [] rfl (.simple rfl) (fun _ _ _ _ _ => .nil) fun x Q Ex h => init_ct x h
theorem c_told (O : ((GG prog w h₀ mg mb tabs tq)).Ok) : FK (GG prog w h₀ mg mb tabs tq) 2 243 cTold :=
  FV_ct (LX O []) (defS 1 [] 0 (wSeq (wRet (tTup (l1 (tAttr .fheader 0 (tVar 0)) (l1 (tAttr .fheader 1 (tVar 0)) (l1 (tAttr .fheader 2 (tVar 0)) (l1 (tAttr .fheader 3 (tVar 0)) (l1 (tAttr .fheader 4 (tVar 0)) l0))))))) wSkip)) [] [] rfl (.simple rfl) (fun _ _ _ _ _ => .nil) fun x Q Ex h => by
    walk_at "gd"
    · exact nv_on _
    walk_at "gd"
    · exact nv_on _
    walk_at "wh"
    exact need_of (frz_hd _ _ _) h
theorem m_ini (c : Cls) (n : Nat) : ∀ ds μ (Q Q' : D → List MO → Prop) (Ex Ex' : Exn → List MO → Prop), (∀ d m, Q d m → Q' d m) → (∀ e m, Ex e m → Ex' e m) → cIni c n ds μ Q Ex → cIni c n ds μ Q' Ex' := by
  intro ds μ Q Q' Ex Ex' h1 _ h
  cases h with
  | mk x h => exact .mk x (h1 _ _ h)
abbrev m_fheader := m_ini .fheader 5
abbrev m_bhead := m_ini .bhead 3
abbrev m_fspan := m_ini .fspan 4
abbrev ILit := { n : Nat // n ≤ 1000 }
abbrev n4 : ILit := ⟨4, by decide⟩
abbrev bhI (x : Bool × Nat × Nat) : D := .inst .bhead [.bool x.1, nD x.2.1, nD x.2.2]
abbrev skD (x : Nat × List UInt8) : D := .tup [nD x.1, .bytes x.2]
abbrev cBh : PF := sp eCur (kRd (fun _ => bheadP) bhI)
abbrev cSkip : PF := sp eCur (kRd (fun _ => skipP) skD)
abbrev cHdr : PF := sp eCur (kRd (fun _ => hdrP) Hd.I)
def nextP (first : Bool) : Pr Nat := .get 4 (if first then .short else .trailing) fun l => if first = false ∧ ¬ isFr (le l) ∧ ¬ isSk (le l) then .fail .trailing else .ret (le l)
abbrev cNext : PF := sp eCuN fun x Q Ex => Rn (nextP (decide (x.2.2 = 0))) x.2.1 (fun m _ => Q (nD m) [octC x.2.1]) (fun e => ∀ q : Int, Ex e [octI x.1 q])
def hdrQ3 (x w d : Nat) : Pr Hd := (sizeP x).bind fun s => .ret ⟨if x / 32 % 2 = 1 then s else some w, s, d, x / 4 % 2 = 1, x / 32 % 2 = 1⟩
def hdrQ2 (x w : Nat) : Pr Hd := (identP x).bind (hdrQ3 x w)
theorem frz_hdI (n : Nat) (μ : List MO) {w s : Option Nat} {i : Nat} {c g : Bool} : frz n μ (.inst .fheader [onD w, onD s, nD i, .bool c, .bool g]) = some (.inst .fheader [onD w, onD s, nD i, .bool c, .bool g]) := by
  cases w <;> cases s <;> rfl
theorem hdr_fin {P : Hd → Prop} {a a' s : Option Nat} {i : Nat} {c c' g g' : Bool} (e1 : a = a') (e2 : c' = c) (e3 : g' = g) (h : P ⟨a, s, i, c, g⟩) : P ⟨a', s, i, c', g'⟩ := by subst e1 e2 e3; exact h
theorem dec1 (v : Nat) : negB false (eqI (.ofNat (v &&& 1)) 1) = decide (v % 2 = 1) := by
  rw [show v &&& 1 = v % 2 from Nat.and_two_pow_sub_one_eq_mod v 1]; rfl
theorem and3 (v : Nat) : v &&& 3 = v % 4 := Nat.and_two_pow_sub_one_eq_mod v 2
theorem and15 (v : Nat) : v &&& 15 = v % 16 := Nat.and_two_pow_sub_one_eq_mod v 4
theorem tr_not {P : Prop} [Decidable P] (h : truthI (.ofNat (b2n (!decide P))) = true) : ¬ P := fun q => by rw [decide_eq_true q] at h; exact nomatch h
theorem tr_yes {P : Prop} [Decidable P] (h : truthI (.ofNat (b2n (!decide P))) = false) : P := Classical.not_not.mp fun q => by rw [decide_eq_false q] at h; exact nomatch h
theorem tr_t {n : Nat} (h : truthI (.ofNat n) = true) : ¬ n = 0 := of_decide_eq_false (not_t h)
theorem tr_f {n : Nat} (h : truthI (.ofNat n) = false) : n = 0 := of_decide_eq_true (not_f h)
theorem scnt_le : ∀ x < 256, scnt x ≤ 8 := by decide +kernel
theorem icnt_le (x : Nat) : icnt x ≤ 4 := by unfold icnt; split <;> lia
theorem c_bhead (O : ((GG prog w h₀ mg mb tabs tq)).Ok) (h_Octets_little : FK (GG prog w h₀ mg mb tabs tq) 4 192 cLit) (h_BlockHead___init__ : FK (GG prog w h₀ mg mb tabs tq) 2 292 (cIni .bhead 3)) : FK (GG prog w h₀ mg mb tabs tq) 5 306 cBh :=
  FV_ct (LX O [⟨192, .fv 4 _ h_Octets_little⟩, ⟨295, .nf .bhead _ 2 _ rfl newOk_bhead h_BlockHead___init__ m_bhead⟩]) (defS 1 [] 1 (wSeq (wSet 1 (tMeth .octets (tVar 0) (l1 (tD (.int 3)) l0) cLit)) (wSeq (wRet (tNewF .bhead (l1 (t2 (t2 (tVar 1) (tD (.int 1)) oAnd) (tD (.int 1)) oEq) (l1 (t2 (t2 (tVar 1) (tD (.int 1)) oShr) (tD (.int 3)) oAnd) (l1 (t2 (tVar 1) (tD (.int 3)) oShr) l0))) ((cIni .bhead 3)))) wSkip))) [] [] rfl (.simple rfl) (fun _ _ _ _ _ => .nil) fun x Q Ex h => by
    walk_at "wh"
    refine .mk (cuN x.2.1 (⟨3, by decide⟩ : ILit)) (Rn_mono (Rn_bind h) (fun v c h => ?_) fun _ h => h)
    walk_at "wh"
    refine ⟨fun l hl hc => .mk (⟨l, hl, hc⟩ : Fl 3) ⟨rfl, rfl⟩, ?_⟩
    walk_at "wh"
    exact at_ (P := fun z => Q (bhI (z, v / 2 &&& 3, v / 8)) [octC c]) (dec1 v) (at_ (P := fun z => Q (bhI (_, z, v / 8)) [octC c]) (and3 _) h)
theorem c_skip (O : ((GG prog w h₀ mg mb tabs tq)).Ok) (h_Octets_little : FK (GG prog w h₀ mg mb tabs tq) 4 192 cLit) (h_Octets_take : FK (GG prog w h₀ mg mb tabs tq) 3 171 cTake) (h_is_skip_magic : FK (GG prog w h₀ mg mb tabs tq) 2 257 cIsSk) : FK (GG prog w h₀ mg mb tabs tq) 5 313 cSkip :=
  FV_ct (LX O [⟨192, .fv 4 _ h_Octets_little⟩, ⟨171, .fv 3 _ h_Octets_take⟩, ⟨257, .fv 2 _ h_is_skip_magic⟩]) (defS 1 [] 1 (wSeq (wSet 1 (tMeth .octets (tVar 0) (l1 (tD (.int 4)) l0) cLit)) (wSeq (wIf (tNot (tTrue (tCall (l1 (tVar 1) l0) cIsSk))) (wSeq (wRaise .header (tD (.str "magic number of a skippable frame"))) wSkip) wSkip) (wSeq (wRet (tTup (l1 (t2 (tVar 1) (tD (.int 15)) oAnd) (l1 (tMeth .octets (tVar 0) (l1 (tMeth .octets (tVar 0) (l1 (tD (.int 4)) l0) cLit) l0) cTake) l0)))) wSkip)))) [] [] rfl (.simple rfl) (fun _ _ _ _ _ => .nil) fun x Q Ex h => by
    walk_at "wh"
    refine .mk (cuN x.2.1 n4) (Rn_mono (Rn_bind h) (fun m c h => ?_) fun _ h => h)
    walk_at "wh"
    refine .mk m ?_
    walk_at "wh"
    refine br_of (fun e => ?_) (fun e => ?_)
    · walk_at "wh"
      exact Rn_f h (of_decide_eq_false (not_t e)) _
    · walk_at "wh"
      refine .mk (cuN c n4) (Rn_mono (Rn_bind (Rn_bind (Rn_t h (of_decide_eq_true (not_f e))))) (fun n c h => ?_) fun _ h => h)
      walk_at "wh"
      refine .mk (cuN c n) (Rn_mono h (fun l c h => ?_) fun _ h => h)
      walk_at "wh"
      exact at_ (P := fun z => Q (skD (z, l)) [octC c]) (and15 m) h
theorem c_next (O : ((GG prog w h₀ mg mb tabs tq)).Ok) (h_Octets_left : FK (GG prog w h₀ mg mb tabs tq) 1 157 cLeft) (h_Octets_little : FK (GG prog w h₀ mg mb tabs tq) 4 192 cLit) (h_is_skip_magic : FK (GG prog w h₀ mg mb tabs tq) 2 257 cIsSk) : FK (GG prog w h₀ mg mb tabs tq) 5 320 cNext :=
  FV_ct (LX O [⟨157, .fv 1 _ h_Octets_left⟩, ⟨192, .fv 4 _ h_Octets_little⟩, ⟨257, .fv 2 _ h_is_skip_magic⟩]) (defS 2 [] 2 (wSeq (wSet 2 (tAttr .octets 2 (tVar 0))) (wSeq (wIf (tTrue (t2 (tMeth .octets (tVar 0) l0 cLeft) (tD (.int 4)) oLt)) (wSeq (wIf (tTrue (t2 (tVar 1) (tD (.int 0)) oGt)) (wSeq (wRaise .trailing (tD (.str "octets behind the last frame"))) wSkip) wSkip) (wSeq (wRaise .short (tD (.str "magic number"))) wSkip)) wSkip) (wSeq (wSet 3 (tMeth .octets (tVar 0) (l1 (tD (.int 4)) l0) cLit)) (wSeq (wAttr .octets 2 (tVar 2) (tVar 0)) (wSeq (wIf (tAnd (tTrue (t2 (tVar 1) (tD (.int 0)) oGt)) (tAnd (tTrue (t2 (tVar 3) (tD (.int 4247762216)) tNeq)) (tAnd (tNot (tTrue (tCall (l1 (tVar 3) l0) cIsSk))) (tB true)))) (wSeq (wRaise .trailing (tD (.str "octets behind the last frame"))) wSkip) wSkip) (wSeq (wRet (tVar 3)) wSkip))))))) [] [] rfl (.simple rfl) (fun _ _ _ _ _ => .nil) fun x Q Ex h => by
    walk_at "wh"
    refine .mk (cuC x.2.1) ?_
    walk_at "wh"
    refine br_map h (fun _ h => ?_) (fun hc h => ?_)
    · walk_at "wh"
      refine br_of (fun e => ?_) (fun e => ?_)
      · walk_at "wh"
        exact (if_neg (fun q => Nat.ne_of_gt (lt_t e) (of_decide_eq_true q)) : (if decide (x.2.2 = 0) = true then Exn.short else .trailing) = .trailing) ▸ h _
      · walk_at "wh"
        exact (if_pos (decide_eq_true (Nat.le_zero.mp (lt_f e))) : (if decide (x.2.2 = 0) = true then Exn.short else .trailing) = .short) ▸ h _
    · walk_at "wh"
      refine .mk (cuN x.2.1 n4) (br_f hc ?_)
      walk_at "wh"
      refine br_of (fun e => ?_) (fun e => ?_)
      · walk_at "wh"
        refine br_of (fun e1 => ?_) (fun e1 => ?_)
        · walk_at "wh"
          refine .mk _ ?_
          walk_at "wh"
          refine br_of (fun e2 => ?_) (fun e2 => ?_)
          · walk_at "wh"
            exact Rn_t h ⟨decide_eq_false (Nat.ne_of_gt (lt_t e)), ne_t e1, of_decide_eq_false (not_t e2)⟩ _
          · walk_at "wh"
            exact Rn_f h fun q => q.2.2 (of_decide_eq_true (not_f e2))
        · walk_at "wh"
          exact Rn_f h fun q => q.2.1 (ne_f e1)
      · walk_at "wh"
        exact Rn_f h fun q => nomatch q.1.symm.trans (decide_eq_true (Nat.le_zero.mp (lt_f e)))
theorem c_hdr (O : ((GG prog w h₀ mg mb tabs tq)).Ok) (h_Octets_little : FK (GG prog w h₀ mg mb tabs tq) 4 192 cLit) (h_Octets_octet : FK (GG prog w h₀ mg mb tabs tq) 4 185 cOct) (h_check_magic : FK (GG prog w h₀ mg mb tabs tq) 2 264 cChk) (h_field_counts : FK (GG prog w h₀ mg mb tabs tq) 2 271 cCnt) (h_window_of : FK (GG prog w h₀ mg mb tabs tq) 2 221 cWin) (h_FrameHeader___init__ : FK (GG prog w h₀ mg mb tabs tq) 2 236 (cIni .fheader 5)) : FK (GG prog w h₀ mg mb tabs tq) 5 278 cHdr :=
  FV_ct (LX O [⟨192, .fv 4 _ h_Octets_little⟩, ⟨185, .fv 4 _ h_Octets_octet⟩, ⟨264, .fv 2 _ h_check_magic⟩, ⟨271, .fv 2 _ h_field_counts⟩, ⟨221, .fv 2 _ h_window_of⟩, ⟨246, .nf .fheader _ 2 _ rfl newOk_fheader h_FrameHeader___init__ m_fheader⟩]) (defS 1 [] 8 (wSeq (wExp (tCall (l1 (tMeth .octets (tVar 0) (l1 (tD (.int 4)) l0) cLit) l0) cChk)) (wSeq (wSet 1 (tMeth .octets (tVar 0) l0 cOct)) (wSeq (wTg (gT [2, 3, 4]) (tCall (l1 (tVar 1) l0) cCnt)) (wSeq (wSet 5 (t2 (t2 (tVar 1) (tD (.int 32)) oAnd) (tD (.int 0)) tNeq)) (wSeq (wSet 6 (tD (.int 0))) (wSeq (wJ (wIf (tTrue (tVar 2)) (wSeq (wSet 6 (tCall (l1 (tMeth .octets (tVar 0) l0 cOct) l0) cWin)) wSkip) wSkip)) (wSeq (wSet 7 (tD (.int 0))) (wSeq (wJ (wIf (tTrue (tVar 3)) (wSeq (wSet 7 (tMeth .octets (tVar 0) (l1 (tVar 3) l0) cLit)) wSkip) wSkip)) (wSeq (wSet 8 (tD .none)) (wSeq (wJ (wIf (tTrue (tVar 4)) (wSeq (wSet 8 (tMeth .octets (tVar 0) (l1 (tVar 4) l0) cLit)) (wSeq (wIf (tTrue (t2 (tVar 4) (tD (.int 2)) oEq)) (wSeq (wAug 8 (tD (.int 256)) oAdd) wSkip) wSkip) wSkip)) wSkip)) (wSeq (wJ (wIf (tTrue (tVar 5)) (wSeq (wSet 6 (tVar 8)) wSkip) wSkip)) (wSeq (wRet (tNewF .fheader (l1 (tVar 6) (l1 (tVar 8) (l1 (tVar 7) (l1 (t2 (t2 (tVar 1) (tD (.int 4)) oAnd) (tD (.int 0)) tNeq) (l1 (tVar 5) l0))))) ((cIni .fheader 5)))) wSkip))))))))))))) [] [] (by with_unfolding_all rfl) (.simple rfl) (fun _ _ _ _ _ => .nil) fun x Q Ex h => by
    walk_at "wh"
    refine .mk (cuN x.2.1 n4) (Rn_mono (Rn_bind h) (fun m c h => ?_) fun _ h => h)
    walk_at "wh"
    refine .mk m ⟨fun g => Rn_t h g _, fun g g' => ?_, fun g g' => Rn_f (Rn_f h g) g' _⟩
    walk_at "wh"
    refine .mk (cuC c) (Rn_oct (Rn_bind (Rn_t (Rn_f h g) g')) (fun d c hd h => ?_) fun _ h => h)
    walk_at "wh"
    refine .mk (⟨d, hd⟩ : Byt) (br_map (Rn_if h) (fun _ h => h _) fun _ h => ?_)
    walk_at "wh"
    refine join (σ := { s : Nat × Cur x.1 // Rn (hdrQ2 d s.1) s.2 (fun a c => Q a.I [octC c]) (fun e => ∀ q : Int, Ex e [octI x.1 q]) }) (fun s => ([some (.hi 0 .octets), some (nD d), some (nD (b2n (!decide (d / 32 % 2 = 1)))), some (nD (icnt d)), some (nD (scnt d)), some (.bool (!decide (d &&& 32 = 0))), some (nD s.1.1), none, none], [octC s.1.2])) (fun C hC => ?_) (fun wv => ?_)
    · walk_at "wh"
      have h := Rn_bind h
      refine br_of (fun e => ?_) (fun e => ?_)
      · walk_at "wh"
        refine .mk (cuC c) (Rn_oct (Rn_bind (Rn_f h (tr_not e))) (fun w c hw h => ?_) fun _ h => h)
        walk_at "wh"
        refine .mk (⟨w, hw⟩ : Byt) ?_
        walk_at "wh"
        exact hC ⟨(win w, c), h⟩
      · walk_at "wh"
        have h := Rn_t h (tr_yes e)
        exact hC ⟨(0, c), h⟩
    walk_at "wh"
    refine join (σ := { s : Nat × Cur x.1 // Rn (hdrQ3 d wv.1.1 s.1) s.2 (fun a c => Q a.I [octC c]) (fun e => ∀ q : Int, Ex e [octI x.1 q]) }) (fun s => ([some (.hi 0 .octets), some (nD d), some (nD (b2n (!decide (d / 32 % 2 = 1)))), some (nD (icnt d)), some (nD (scnt d)), some (.bool (!decide (d &&& 32 = 0))), some (nD wv.1.1), some (nD s.1.1), none], [octC s.1.2])) (fun C hC => ?_) (fun dv => ?_)
    · walk_at "wh"
      have h := Rn_bind wv.2
      refine br_of (fun e => ?_) (fun e => ?_)
      · walk_at "wh"
        refine .mk (cuN wv.1.2 (⟨icnt d, Nat.le_trans (icnt_le d) (by decide)⟩ : ILit)) (Rn_mono (Rn_f h (tr_t e)) (fun w c h => ?_) fun _ h => h)
        walk_at "wh"
        exact hC ⟨(w, c), h⟩
      · walk_at "wh"
        have h := Rn_t h (tr_f e)
        exact hC ⟨(0, wv.1.2), h⟩
    walk_at "wh"
    refine join (σ := { s : Option Nat × Nat × Cur x.1 // Rn (.ret (⟨if d / 32 % 2 = 1 then s.1 else some wv.1.1, s.1, s.2.1, d / 4 % 2 = 1, d / 32 % 2 = 1⟩ : Hd)) s.2.2 (fun a c => Q a.I [octC c]) (fun e => ∀ q : Int, Ex e [octI x.1 q]) }) (fun s => ([some (.hi 0 .octets), some (nD d), some (nD (b2n (!decide (d / 32 % 2 = 1)))), some (nD (icnt d)), some (nD (scnt d)), some (.bool (!decide (d &&& 32 = 0))), some (nD wv.1.1), some (nD s.1.2.1), some (onD s.1.1)], [octC s.1.2.2])) (fun C hC => ?_) (fun s => ?_)
    · walk_at "wh"
      have h := Rn_bind dv.2
      refine br_of (fun e => ?_) (fun e => ?_)
      · walk_at "wh"
        refine .mk (cuN dv.1.2 (⟨scnt d, Nat.le_trans (scnt_le d hd) (by decide)⟩ : ILit)) (Rn_mono (Rn_bind (Rn_f h (tr_t e))) (fun w c h => ?_) fun _ h => h)
        walk_at "wh"
        refine br_of (fun e => ?_) (fun e => ?_)
        · walk_at "wh"
          exact hC ⟨(some (w + 256), dv.1.1, c), (if_pos (eq_t e) : (if scnt d = 2 then w + 256 else w) = _) ▸ h⟩
        · walk_at "wh"
          exact hC ⟨(some w, dv.1.1, c), (if_neg (eq_f e) : (if scnt d = 2 then w + 256 else w) = _) ▸ h⟩
      · walk_at "wh"
        have h := Rn_t h (tr_f e)
        exact hC ⟨(none, dv.1.1, dv.1.2), h⟩
    walk_at "wh"
    refine join (σ := { u : Option Nat // (if d / 32 % 2 = 1 then s.1.1 else some wv.1.1) = u }) (fun u => ([some (.hi 0 .octets), some (nD d), some (nD (b2n (!decide (d / 32 % 2 = 1)))), some (nD (icnt d)), some (nD (scnt d)), some (.bool (!decide (d &&& 32 = 0))), some (onD u.1), some (nD s.1.2.1), some (onD s.1.1)], [octC s.1.2.2])) (fun C hC => ?_) (fun u => ?_)
    · walk_at "wh"
      refine br_of (fun e => ?_) (fun e => ?_)
      · walk_at "wh"
        exact hC ⟨s.1.1, if_pos (of_decide_eq_true ((bit32 d hd).symm.trans e))⟩
      · walk_at "wh"
        exact hC ⟨some wv.1.1, if_neg (of_decide_eq_false ((bit32 d hd).symm.trans e))⟩
    walk_at "wh"
    refine ⟨fun l hl hc => .mk (⟨l, hl, hc⟩ : Fl 5) ⟨rfl, rfl⟩, need_of (frz_hdI _ _) ?_⟩
    exact hdr_fin (P := fun h => Q h.I [octC s.1.2.2]) u.2 (bit4 d hd) (bit32 d hd) s.2
section

def begins (r : List UInt8) : Bool := decide (r.take 4 = [40, 181, 47, 253]) || (decide (3 < r.length) && decide ((r.getD 0 0).toNat / 16 = 5) && decide ((r.drop 1).take 3 = [42, 77, 24]))
def otherE (r : List UInt8) : Exn := if r.length < 4 then .short else if (r.drop 1).take 3 = [181, 47, 253] ∧ ((r.getD 0 0).toNat = 30 ∨ (34 ≤ (r.getD 0 0).toNat ∧ (r.getD 0 0).toNat ≤ 39)) then .older else .header
theorem four {r : List UInt8} (h : 4 ≤ r.length) : ∃ a b c d t, r = a :: b :: c :: d :: t := by
  match r, h with
  | a :: b :: c :: d :: t, _ => exact ⟨a, b, c, d, t, rfl⟩
theorem u8 {a : UInt8} {n : Nat} (h : n < 256) : a = UInt8.ofNat n ↔ a.toNat = n := by
  rw [← UInt8.toNat_inj]
  have : (UInt8.ofNat n).toNat = n := by simp [UInt8.toNat_ofNat']; lia
  rw [this]
theorem le_inj : ∀ {l m : List UInt8}, l.length = m.length → le l = le m → l = m
  | [], [], _, _ => rfl
  | a :: r, b :: s, hl, h => by
    have ha := a.toNat_lt; have hb := b.toNat_lt
    simp only [le] at h
    have h1 : a.toNat = b.toNat := by lia
    rw [UInt8.toNat_inj.mp h1, le_inj (Nat.succ.inj hl) (by lia : le r = le s)]
theorem sk_num {a n : Nat} (ha : a < 256) : (a + 256 * n) / 16 = 407710288 / 16 ↔ n = 1592618 ∧ a / 16 = 5 := by lia
theorem old_num {a n : Nat} (ha : a < 256) : isOld (a + 256 * n) ↔ n = 16592821 ∧ (a = 30 ∨ (34 ≤ a ∧ a ≤ 39)) := by
  unfold isOld; lia
theorem begins_iff {a b c d : UInt8} {t : List UInt8} : begins (a :: b :: c :: d :: t) = true ↔ isFr (le [a, b, c, d]) ∨ isSk (le [a, b, c, d]) := by
  simp only [begins, List.take_succ_cons, List.take_zero, List.drop_succ_cons, List.drop_zero, List.length_cons, List.getD_cons_zero, Bool.or_eq_true, Bool.and_eq_true, decide_eq_true_eq]
  constructor
  · rintro (h | ⟨⟨_, h⟩, h'⟩)
    · exact .inl (by rw [of_decide_eq_true h]; decide)
    · exact .inr ((sk_num a.toNat_lt).mpr ⟨by rw [h']; decide, h⟩)
  · rintro (h | h)
    · exact .inl (decide_eq_true (le_inj rfl (h.trans (by decide : 4247762216 = le [40, 181, 47, 253]))))
    · have h := (sk_num a.toNat_lt).mp h
      exact .inr ⟨⟨Nat.le_add_left _ _, h.2⟩, le_inj rfl (h.1.trans (by decide : 1592618 = le [42, 77, 24]))⟩
theorem old_iff {a b c d : UInt8} : isOld (le [a, b, c, d]) ↔ [b, c, d] = [181, 47, 253] ∧ (a.toNat = 30 ∨ (34 ≤ a.toNat ∧ a.toNat ≤ 39)) :=
  (old_num a.toNat_lt).trans (and_congr_left' ⟨fun h => le_inj rfl (h.trans (by decide : 16592821 = le [181, 47, 253])), fun h => by rw [h]; decide⟩)
theorem other4 {a b c d : UInt8} {t : List UInt8} : otherE (a :: b :: c :: d :: t) = if [b, c, d] = [181, 47, 253] ∧ (a.toNat = 30 ∨ (34 ≤ a.toNat ∧ a.toNat ≤ 39)) then .older else .header := by
  unfold otherE
  rw [if_neg (by simp)]
  rfl
theorem begins_len {r : List UInt8} (h : begins r = true) : 4 ≤ r.length := by
  simp only [begins, Bool.or_eq_true, Bool.and_eq_true, decide_eq_true_eq] at h
  rcases h with h | h
  · have := congrArg List.length h
    simp at this; lia
  · lia
theorem begins_app {r s : List UInt8} (h : begins r = true) : begins (r ++ s) = true := by
  obtain ⟨a, b, c, d, t, rfl⟩ := four (begins_len h)
  rw [begins_iff] at h
  simp only [List.cons_append]
  rw [begins_iff]; exact h
theorem begins_take {r : List UInt8} {c : Nat} (h : begins (r.take c) = true) : begins r = true := by
  have := begins_app (s := r.drop c) h
  rwa [List.take_append_drop] at this

section
variable {N : Nat} {first first' : Bool} {r s : List UInt8} {b c n : Nat} {e : Exn} {v : Option Hd × Bl}
theorem frameM_first {m : Nat} (h : isFr m ∨ isSk m) : frameM N first m = frameM N true m := by
  have h1 : ¬ (first = false ∧ ¬ isFr m ∧ ¬ isSk m) := fun q => h.elim q.2.1 q.2.2
  have h2 : ¬ (true = false ∧ ¬ isFr m ∧ ¬ isSk m) := fun q => Bool.noConfusion q.1
  unfold frameM
  rw [if_neg h1, if_neg h2]
theorem run4 (h : 4 ≤ r.length) : (measP N first).run r = ((frameM N first (le (r.take 4))).run (r.drop 4)).add 4 := by
  simp only [measP, Pr.run, if_pos h]
theorem meas_begins (h : begins r = true) : (measP N first).run r = (measP N true).run r := by
  have h4 := begins_len h
  rw [run4 h4, run4 h4]
  obtain ⟨a, b, c, d, t, rfl⟩ := four h4
  rw [begins_iff] at h
  rw [frameM_first (by simpa using h)]
theorem meas_not (h : begins r = false) : (measP N first).run r = .err (if first = true then otherE r else .trailing) := by
  by_cases h4 : 4 ≤ r.length
  · rw [run4 h4]
    obtain ⟨a, b, c, d, t, rfl⟩ := four h4
    have h' : ¬ (isFr (le [a, b, c, d]) ∨ isSk (le [a, b, c, d])) := fun q => by rw [begins_iff.mpr q] at h; cases h
    have h1 : ¬ isFr (le [a, b, c, d]) := fun q => h' (.inl q)
    have h2 : ¬ isSk (le [a, b, c, d]) := fun q => h' (.inr q)
    show ((frameM N first (le [a, b, c, d])).run t).add 4 = _
    unfold frameM
    cases first with
    | false => rw [if_pos ⟨rfl, h1, h2⟩]; rfl
    | true =>
      rw [if_neg (by rintro ⟨q, _⟩; cases q), if_neg h2]
      have e : otherE (a :: b :: c :: d :: t) = if isOld (le [a, b, c, d]) then .older else .header := by
        unfold otherE
        rw [if_neg (by simp)]
        by_cases ho : isOld (le [a, b, c, d])
        · rw [if_pos ho, if_pos]; rw [old_iff] at ho; exact ho
        · rw [if_neg ho, if_neg]; rw [old_iff] at ho; exact ho
      rw [if_pos rfl, e]
      unfold hdrM
      by_cases ho : isOld (le [a, b, c, d])
      · rw [if_pos ho, if_pos ho]; rfl
      · rw [if_neg ho, if_neg ho, if_neg h1]; rfl
  · unfold measP Pr.run
    rw [if_neg h4]
    have : otherE r = .short := by unfold otherE; rw [if_pos (by lia)]
    rw [this]
theorem meas_ok (h : (measP N first).run r = .ok v n) : begins r = true ∧ 4 ≤ n ∧ n ≤ r.length := by
  have hb : begins r = true := by
    cases hq : begins r with
    | true => rfl
    | false => rw [meas_not hq] at h; cases h
  refine ⟨hb, ?_, (run_ext h).1⟩
  rw [run4 (begins_len hb)] at h
  obtain ⟨k, _, rfl⟩ := add_ok h
  lia
theorem meas_app (h : (measP N first).run r = .ok v n) (s : List UInt8) : (measP N first').run (r.take n ++ s) = .ok v n := by
  obtain ⟨h1, h2, h3⟩ := meas_ok h
  have := (run_ext h).2 s
  obtain ⟨g1, _⟩ := meas_ok this
  rw [meas_begins g1, ← meas_begins (first := first) g1]; exact this
theorem meas_cut (c : Nat) (h : begins (r.take c) = true) : (measP N first).run (r.take c) = (measP N first).run r ∨ (measP N first).run (r.take c) = .err .short := by
  rw [meas_begins h, meas_begins (begins_take h)]
  exact run_cut sh_measP c
theorem meas_nobad : (measP N first).run r ≠ .err .badarg := by
  cases h : begins r with
  | true => rw [meas_begins h]; exact run_nobad sh_measP
  | false =>
    rw [meas_not h]
    unfold otherE
    intro q
    cases first
    · cases q
    · rw [if_pos rfl] at q
      split at q
      · cases q
      · split at q <;> cases q
theorem meas_more (hr : (measP N first).run r = .err e) (he : e ≠ .short) (h4 : 4 ≤ r.length) (s : List UInt8) : (measP N first).run (r ++ s) = .err e := by
  cases h : begins r with
  | true =>
    rw [meas_begins h] at hr
    rw [meas_begins (begins_app h)]
    exact run_more sh_measP hr he s
  | false =>
    obtain ⟨a, b, c, d, t, rfl⟩ := four h4
    have h' : begins (a :: b :: c :: d :: t ++ s) = false := by
      cases q : begins (a :: b :: c :: d :: t ++ s) with
      | false => rfl
      | true =>
        simp only [List.cons_append] at q
        rw [begins_iff] at q
        rw [begins_iff.mpr q] at h; cases h
    rw [meas_not h] at hr
    have e : otherE (a :: b :: c :: d :: t ++ s) = otherE (a :: b :: c :: d :: t) := by
      rw [List.cons_append, List.cons_append, List.cons_append, List.cons_append, other4, other4]
    rw [meas_not h', ← hr, e]

/-! ## frames in a row -/
structure Sp where
  b : Nat
  e : Nat
  told : Option Hd
  blocks : Bl
def Sp.sh (k : Nat) (s : Sp) : Sp := ⟨s.b + k, s.e + k, s.told, s.blocks⟩
inductive Stp (N : Nat) : Bool → Nat → List UInt8 → List Sp → Option Exn → Prop
  | nil {first : Bool} {b : Nat} : Stp N first b [] [] none
  | err {first : Bool} {b : Nat} {r : List UInt8} {e : Exn} : r ≠ [] → (measP N first).run r = .err e → Stp N first b r [] (some e)
  | ok {first : Bool} {b n : Nat} {r : List UInt8} {v : Option Hd × Bl} {fs : List Sp} {w : Option Exn} : (measP N first).run r = .ok v n → Stp N false (b + n) (r.drop n) fs w → Stp N first b r (⟨b, b + n, v.1, v.2⟩ :: fs) w
def lastE (b : Nat) : List Sp → Nat
  | [] => b
  | s :: r => lastE s.e r
variable {fs fs' : List Sp} {w w' : Option Exn}
theorem Stp.ex : ∀ (k : Nat) (first : Bool) (b : Nat) (r : List UInt8), r.length ≤ k → ∃ fs w, Stp N first b r fs w
  | 0, first, b, r, h => by cases r with
    | nil => exact ⟨[], none, .nil⟩
    | cons => simp at h
  | k + 1, first, b, r, h => by
    by_cases hr : r = []
    · subst hr; exact ⟨[], none, .nil⟩
    · cases h' : (measP N first).run r with
      | err e => exact ⟨_, _, .err hr h'⟩
      | ok v n =>
        obtain ⟨_, h1, h2⟩ := meas_ok h'
        obtain ⟨fs, w, q⟩ := Stp.ex k false (b + n) (r.drop n) (by rw [List.length_drop]; lia)
        exact ⟨_, _, .ok h' q⟩
theorem meas_nil : (measP N first).run [] ≠ .ok v n := fun q => by
  have := (meas_ok q).2; simp at this; lia
theorem Stp.det (h : Stp N first b r fs w) : ∀ {fs' w'}, Stp N first b r fs' w' → fs = fs' ∧ w = w' := by
  induction h with
  | nil =>
    intro fs' w' h'
    cases h' with
    | nil => exact ⟨rfl, rfl⟩
    | err q _ => exact absurd rfl q
    | ok q _ => exact absurd q meas_nil
  | err q1 q2 =>
    intro fs' w' h'
    cases h' with
    | nil => exact absurd rfl q1
    | err _ q => rw [q2] at q; cases q; exact ⟨rfl, rfl⟩
    | ok q _ => rw [q2] at q; cases q
  | ok q1 _ ih =>
    intro fs' w' h'
    cases h' with
    | nil => exact absurd q1 meas_nil
    | err _ q => rw [q1] at q; cases q
    | ok q p => rw [q1] at q; cases q; obtain ⟨rfl, rfl⟩ := ih p; exact ⟨rfl, rfl⟩
theorem Stp.shift (k : Nat) (h : Stp N first b r fs w) : Stp N first (b + k) r (fs.map (·.sh k)) w := by
  induction h with
  | nil => exact .nil
  | err q1 q2 => exact .err q1 q2
  | @ok first b n r v fs w q1 _ ih =>
    have e : b + n + k = b + k + n := by lia
    rw [e] at ih
    rw [List.map_cons]
    have := Stp.ok (b := b + k) q1 ih
    rw [← e] at this
    exact this
theorem Stp.fst (hb : begins r = true) (h : Stp N first b r fs w) : Stp N first' b r fs w := by
  cases h with
  | nil => cases hb
  | err q1 q2 => exact .err q1 (by rw [meas_begins hb] at *; exact q2)
  | ok q1 q2 => exact .ok (by rw [meas_begins hb] at *; exact q1) q2
theorem Stp.lastE_ge (h : Stp N first b r fs w) : b ≤ lastE b fs ∧ lastE b fs ≤ b + r.length := by
  induction h with
  | nil => exact ⟨Nat.le_refl _, by simp [lastE]⟩
  | err => exact ⟨Nat.le_refl _, by simp [lastE]⟩
  | ok q1 _ ih =>
    have := (meas_ok q1).2
    rw [List.length_drop] at ih
    simp only [lastE]
    lia
theorem Stp.piece (h : Stp N first b r fs w) : ∀ s ∈ fs, b ≤ s.b ∧ s.b + 4 ≤ s.e ∧ s.e ≤ b + r.length ∧ ∀ first' t, (measP N first').run ((r.drop (s.b - b)).take (s.e - s.b) ++ t) = .ok (s.told, s.blocks) (s.e - s.b) := by
  induction h with
  | nil => intro s hs; cases hs
  | err => intro s hs; cases hs
  | @ok first b n r v fs w q1 _ ih =>
    obtain ⟨_, g1, g2⟩ := meas_ok q1
    intro s hs
    rcases List.mem_cons.mp hs with rfl | hs
    · refine ⟨Nat.le_refl _, by show b + 4 ≤ b + n; lia, by show b + n ≤ _; lia, fun first' t => ?_⟩
      show (measP N first').run ((r.drop (b - b)).take (b + n - b) ++ t) = .ok (v.1, v.2) (b + n - b)
      rw [Nat.sub_self, show b + n - b = n by lia]
      exact meas_app q1 t
    · obtain ⟨h1, h2, h3, h4⟩ := ih s hs
      rw [List.length_drop] at h3
      refine ⟨by lia, h2, by lia, fun first' t => ?_⟩
      have := h4 first' t
      rw [List.drop_drop, show n + (s.b - (b + n)) = s.b - b by lia] at this
      exact this
theorem Stp.one (h : (measP N true).run r = .ok v r.length) : Stp N true 0 r [⟨0, r.length, v.1, v.2⟩] none := by
  have := Stp.ok (b := 0) h (by rw [List.drop_length]; exact .nil)
  simpa using this
theorem Stp.rest (h : Stp N first b r fs w) : (r.drop (lastE b fs - b) = [] ∧ w = none) ∨ (r.drop (lastE b fs - b) ≠ [] ∧ ∃ e, w = some e ∧ (measP N (first && fs.isEmpty)).run (r.drop (lastE b fs - b)) = .err e) := by
  induction h with
  | nil => exact .inl ⟨by simp, rfl⟩
  | err q1 q2 => exact .inr ⟨by simpa [lastE] using q1, _, rfl, by simpa [lastE] using q2⟩
  | @ok first b n r v fs w q1 q ih =>
    have g := q.lastE_ge.1
    have e : (r.drop n).drop (lastE (b + n) fs - (b + n)) = r.drop (lastE b (⟨b, b + n, v.1, v.2⟩ :: fs) - b) := by
      rw [List.drop_drop]; simp only [lastE]; congr 1; lia
    rw [e] at ih
    rcases ih with ih | ⟨i1, e', i2, i3⟩
    · exact .inl ih
    · exact .inr ⟨i1, e', i2, by simpa using i3⟩
theorem Stp.more (h : Stp N first b r fs w) : ∀ {e}, w = some e → e ≠ .short → 4 ≤ (r.drop (lastE b fs - b)).length → ∀ s, Stp N first b (r ++ s) fs w := by
  induction h with
  | nil => intro e h; cases h
  | err q1 q2 =>
    intro e' h he h4 s
    cases h
    refine .err (by simp [q1]) (meas_more q2 he ?_ s)
    simpa [lastE] using h4
  | @ok first b n r v fs w q1 q ih =>
    intro e' h he h4 s
    have g := q.lastE_ge.1
    obtain ⟨_, g1, g2⟩ := meas_ok q1
    have hn : (r ++ s).drop n = r.drop n ++ s := List.drop_append_of_le_length g2
    have e : (r.drop n).drop (lastE (b + n) fs - (b + n)) = r.drop (lastE b (⟨b, b + n, v.1, v.2⟩ :: fs) - b) := by
      rw [List.drop_drop]; simp only [lastE]; congr 1; lia
    refine .ok (n := n) ?_ (by rw [hn]; exact ih h he (by rw [e]; exact h4) s)
    have := meas_app (first' := first) q1 (r.drop n ++ s)
    rwa [← List.append_assoc, List.take_append_drop] at this
end
end
section

section
variable {N : Nat} {first first' : Bool} {r s : List UInt8} {b c n : Nat} {e : Exn} {v : Option Hd × Bl} {fs fs' : List Sp} {w w' : Option Exn}
/-- what a begin of octets is told as -/
def CutAt (N : Nat) (first : Bool) (b : Nat) (r : List UInt8) (fs : List Sp) (w : Option Exn) (c : Nat) : Prop :=
  ∃ why, Stp N first b (r.take c) (fs.filter fun s => decide (s.e ≤ b + c)) why ∧
    (((r.take c).drop (lastE b (fs.filter fun s => decide (s.e ≤ b + c)) - b) = [] ∧ why = none) ∨
     ((r.take c).drop (lastE b (fs.filter fun s => decide (s.e ≤ b + c)) - b) ≠ [] ∧
       (begins ((r.take c).drop (lastE b (fs.filter fun s => decide (s.e ≤ b + c)) - b)) = false → why = some (if (first && (fs.filter fun s => decide (s.e ≤ b + c)).isEmpty) = true then otherE ((r.take c).drop (lastE b (fs.filter fun s => decide (s.e ≤ b + c)) - b)) else .trailing)) ∧
       (begins ((r.take c).drop (lastE b (fs.filter fun s => decide (s.e ≤ b + c)) - b)) = true → why = some .short ∨ (fs.filter (fun s => decide (s.e ≤ b + c)) = fs ∧ why = w))))
theorem cut_none (hw : fs.filter (fun s => decide (s.e ≤ b + c)) = []) (hc : c ≤ r.length) (h : c = 0 ∨ ∃ e, (measP N first).run (r.take c) = .err e ∧ (begins (r.take c) = true → e = .short ∨ (fs = [] ∧ some e = w))) : CutAt N first b r fs w c := by
  unfold CutAt
  rw [hw]
  simp only [lastE, Nat.sub_self, List.drop_zero, List.isEmpty_nil, Bool.and_true]
  rcases h with rfl | ⟨e, h1, h2⟩
  · exact ⟨none, by rw [List.take_zero]; exact .nil, .inl ⟨List.take_zero, rfl⟩⟩
  · by_cases hn : r.take c = []
    · exact ⟨none, by rw [hn]; exact .nil, .inl ⟨hn, rfl⟩⟩
    · refine ⟨some e, .err hn h1, .inr ⟨hn, fun hb => ?_, fun hb => ?_⟩⟩
      · rw [meas_not hb] at h1
        cases h1; rfl
      · rcases h2 hb with rfl | ⟨h3, h4⟩
        · exact .inl rfl
        · exact .inr ⟨h3.symm, h4⟩
theorem Stp.cut (h : Stp N first b r fs w) : ∀ c, c ≤ r.length → CutAt N first b r fs w c := by
  induction h with
  | nil => intro c hc; exact cut_none rfl hc (.inl (by simpa using hc))
  | @err first b r e q1 q2 =>
    intro c hc
    refine cut_none rfl hc ?_
    by_cases h0 : c = 0
    · exact .inl h0
    refine .inr ?_
    cases hb : begins (r.take c) with
    | false => exact ⟨_, meas_not hb, fun q => by cases q⟩
    | true =>
      rcases meas_cut (N := N) (first := first) c hb with q | q
      · exact ⟨e, q.trans q2, fun _ => .inr ⟨rfl, rfl⟩⟩
      · exact ⟨_, q, fun _ => .inl rfl⟩
  | @ok first b n r v fs w q1 q ih =>
    intro c hc
    obtain ⟨g0, g1, g2⟩ := meas_ok q1
    by_cases hn : n ≤ c
    · have hd : (r.take c).drop n = (r.drop n).take (c - n) := by rw [List.drop_take]
      have hrun : (measP N first).run (r.take c) = .ok v n := by
        have e : r.take c = r.take n ++ (r.take c).drop n := by
          conv => lhs; rw [← List.take_append_drop n (r.take c)]
          rw [List.take_take, Nat.min_eq_left hn]
        rw [e]; exact meas_app q1 _
      have hf : (Sp.mk b (b + n) v.1 v.2 :: fs).filter (fun s => decide (s.e ≤ b + c)) = Sp.mk b (b + n) v.1 v.2 :: fs.filter (fun s => decide (s.e ≤ b + n + (c - n))) := by
        rw [List.filter_cons_of_pos (by show decide (b + n ≤ b + c) = true; exact decide_eq_true (by lia)), show b + n + (c - n) = b + c by lia]
      obtain ⟨why, h1, h2⟩ := ih (c - n) (by rw [List.length_drop]; lia)
      have hge := h1.lastE_ge.1
      have hr : (r.take c).drop (lastE b (Sp.mk b (b + n) v.1 v.2 :: fs.filter (fun s => decide (s.e ≤ b + n + (c - n)))) - b) = ((r.drop n).take (c - n)).drop (lastE (b + n) (fs.filter (fun s => decide (s.e ≤ b + n + (c - n)))) - (b + n)) := by
        rw [← hd, List.drop_drop]; simp only [lastE]; congr 1; lia
      unfold CutAt
      rw [hf, hr]
      refine ⟨why, .ok hrun (by rw [hd]; exact h1), ?_⟩
      rcases h2 with ⟨h2, h3⟩ | ⟨h2, h3, h4⟩
      · exact .inl ⟨h2, h3⟩
      · refine .inr ⟨h2, fun hb => by simpa using h3 hb, fun hb => ?_⟩
        rcases h4 hb with h5 | ⟨h5, h6⟩
        · exact .inl h5
        · exact .inr ⟨by rw [h5], h6⟩
    · have hf : (Sp.mk b (b + n) v.1 v.2 :: fs).filter (fun s => decide (s.e ≤ b + c)) = [] := by
        rw [List.filter_eq_nil_iff]
        intro s hs
        rcases List.mem_cons.mp hs with rfl | hs
        · simp only [decide_eq_true_eq]; lia
        · have := q.piece s hs
          simp only [decide_eq_true_eq]; lia
      refine cut_none hf hc ?_
      by_cases h0 : c = 0
      · exact .inl h0
      refine .inr ?_
      cases hb : begins (r.take c) with
      | false => exact ⟨_, meas_not hb, fun q => by cases q⟩
      | true =>
        rcases meas_cut (N := N) (first := first) c hb with q | q
        · rw [q1] at q
          have := (meas_ok q).2.2
          rw [List.length_take] at this
          lia
        · exact ⟨_, q, fun _ => .inl rfl⟩

/-! ## frames that were built -/
structure Fr where
  body : List UInt8
  told : Option Hd
  blocks : Bl
def Good (N : Nat) (f : Fr) : Prop := (measP N true).run f.body = .ok (f.told, f.blocks) f.body.length
def cat : List Fr → List UInt8
  | [] => []
  | f :: r => f.body ++ cat r
def rowS (b : Nat) : List Fr → List Sp
  | [] => []
  | f :: r => ⟨b, b + f.body.length, f.told, f.blocks⟩ :: rowS (b + f.body.length) r
theorem Good.run {f : Fr} (h : Good N f) (s : List UInt8) : (measP N first).run (f.body ++ s) = .ok (f.told, f.blocks) f.body.length := by
  have := meas_app (first' := first) h s
  rwa [List.take_length] at this
theorem Good.len {f : Fr} (h : Good N f) : 4 ≤ f.body.length := (meas_ok h).2.1
theorem Good.beg {f : Fr} (h : Good N f) : begins f.body = true := (meas_ok h).1
theorem stp_row : ∀ {gs : List Fr} {first b fs w}, (∀ f ∈ gs, Good N f) → Stp N (first && gs.isEmpty) (b + (cat gs).length) r fs w → Stp N first b (cat gs ++ r) (rowS b gs ++ fs) w
  | [], first, b, fs, w, _, h => by simpa [cat, rowS] using h
  | f :: gs, first, b, fs, w, hg, h => by
    have hf := hg f (.head _)
    rw [cat, List.append_assoc]
    refine Stp.ok (hf.run _) ?_
    rw [List.drop_left]
    refine stp_row (fun g h => hg g (.tail _ h)) ?_
    simpa [cat, Nat.add_assoc] using h
theorem stp_row0 {gs : List Fr} (hg : ∀ f ∈ gs, Good N f) : Stp N true 0 (cat gs) (rowS 0 gs) none := by
  have := stp_row (r := []) (first := true) (b := 0) (fs := []) (w := none) hg .nil
  simpa using this
theorem lastE_row : ∀ (gs : List Fr) (b : Nat), lastE b (rowS b gs) = b + (cat gs).length
  | [], b => by simp [rowS, lastE, cat]
  | f :: gs, b => by
    rw [rowS, cat, List.length_append]
    show lastE (b + f.body.length) (rowS (b + f.body.length) gs) = _
    rw [lastE_row gs]; lia
theorem rowS_append : ∀ (gs hs : List Fr) (b : Nat), rowS b (gs ++ hs) = rowS b gs ++ rowS (b + (cat gs).length) hs
  | [], hs, b => by simp [rowS, cat]
  | f :: gs, hs, b => by rw [List.cons_append, rowS, rowS, rowS_append gs, cat, List.length_append, List.cons_append]; congr 3; lia
theorem rowS_shift : ∀ (gs : List Fr) (b k : Nat), rowS (b + k) gs = (rowS b gs).map (·.sh k)
  | [], _, _ => rfl
  | f :: gs, b, k => by
    rw [rowS, rowS, List.map_cons, ← rowS_shift gs, show b + k + f.body.length = b + f.body.length + k by lia]
    rfl
theorem cat_append : ∀ (gs hs : List Fr), cat (gs ++ hs) = cat gs ++ cat hs
  | [], _ => rfl
  | f :: gs, hs => by rw [List.cons_append, cat, cat, cat_append gs, List.append_assoc]
theorem rowS_length : ∀ (gs : List Fr) (b : Nat), (rowS b gs).length = gs.length
  | [], _ => rfl
  | f :: gs, b => by rw [rowS, List.length_cons, List.length_cons, rowS_length gs]
end
end
abbrev hdI : Option Hd → D := optD Hd.I
abbrev blD (x : Nat × Nat) : D := .tup [nD x.1, nD x.2]
abbrev blsD (b : Bl) : D := .list (b.map blD)
abbrev spI (i j : Nat) (v : Option Hd × Bl) : D := .inst .fspan [nD i, nD j, hdI v.1, blsD v.2]
/-- octets that are not too many -/
abbrev IMeas := { x : (L : Buf) × Cur L × Nat // x.1.1.length ≤ 1000000 }
abbrev cMeas (N : Nat) : PF := sp (fun x : IMeas => eCuN x.1) fun x Q Ex => Rn (measP N (decide (x.1.2.2 = 0))) x.1.2.1 (fun v c => Q (spI x.1.2.1.i c.i v) [octC c]) (fun e => ∀ q : Int, Ex e [octI x.1.1 q])
theorem frz_span {m : MO} {l : List D} {i j : Nat} (h : Hd) : frz 1 [m, .list l] (.inst .fspan [nD i, nD j, h.I, .hl 1]) = some (.inst .fspan [nD i, nD j, h.I, .list l]) := by
  obtain ⟨w, s, i, c, g⟩ := h
  cases w <;> cases s <;> rfl
theorem Rn_bh {L : Buf} {c : Cur L} {K K' : Bool × Nat × Nat → Cur L → Prop} {E E' : Exn → Prop} (h : Rn bheadP c K E) (k : ∀ b c', c.i + 3 ≤ c'.i → K b c' → K' b c') (ke : ∀ e, E e → E' e) : Rn bheadP c K' E' := br_map h (fun _ => ke _) fun hc h => k _ _ (Nat.le_of_eq (adv_i hc).symm) h
theorem len_le {a f s N : Nat} (h : a + s = N) (g : s = f + 1) (e : N = 1000001) : a ≤ 1000000 := by lia
theorem len_app {α : Type} {l : List α} {x : α} {f s N : Nat} (h : l.length + s = N) (g : s = f + 1) : (l ++ [x]).length + f = N := by
  rw [List.length_append, ← h, g, Nat.add_comm f 1, ← Nat.add_assoc]; rfl
theorem left_lt {l i f s j k : Nat} (h : l < i + s) (g : s = f + 1) (a : i + 3 ≤ j) (b : j ≤ k) : l < k + f := by lia
theorem len_lt {l i N : Nat} (h : l ≤ 1000000) (e : N = 1000001) : l < i + N := by lia
/-- before a block -/
structure MS (N : Nat) (L : Buf) (hd : Hd) (K : Option Hd × Bl → Cur L → Prop) (E : Exn → Prop) where
  f : Nat
  acc : Bl
  last : Bool
  x : Option D
  c : Cur L
  ad : List D
  ha : ad = acc.map blD
  hf : acc.length + f = N
  hl : last = false → L.1.length < c.i + f ∧ Rn (blkP f acc) c (fun a c => Rn (sumP hd a) c K E) E
  ht : last = true → Rn (sumP hd acc) c K E
theorem bind_meas : Binds ((GG prog w h₀ mg mb tabs tq)).K 349 [] := .ofD 2 rfl fun s X _ _ => by
  show BindsTo _ _ _ _
  walk_at "fd"
  exact binds_K X rfl rfl rfl rfl rfl
theorem c_measure {N : Nat} (hN : N = 1000001) (O : ((GG prog w h₀ mg mb tabs tq)).Ok) (h_next_magic : FK (GG prog w h₀ mg mb tabs tq) 5 320 cNext) (h_is_skip_magic : FK (GG prog w h₀ mg mb tabs tq) 2 257 cIsSk) (h_read_skippable : FK (GG prog w h₀ mg mb tabs tq) 5 313 cSkip) (h_FrameSpan___init__ : FK (GG prog w h₀ mg mb tabs tq) 2 334 (cIni .fspan 4)) (h_read_header : FK (GG prog w h₀ mg mb tabs tq) 5 278 cHdr) (h_read_block_head : FK (GG prog w h₀ mg mb tabs tq) 5 306 cBh) (h_Octets_take : FK (GG prog w h₀ mg mb tabs tq) 3 171 cTake) (h_Octets_little : FK (GG prog w h₀ mg mb tabs tq) 4 192 cLit) : FK (GG prog w h₀ mg mb tabs tq) 6 349 ((cMeas N)) :=
  FV_ct (LX O [⟨320, .fv 5 _ h_next_magic⟩, ⟨257, .fv 2 _ h_is_skip_magic⟩, ⟨313, .fv 5 _ h_read_skippable⟩, ⟨337, .nf .fspan _ 2 _ rfl newOk_fspan h_FrameSpan___init__ m_fspan⟩, ⟨278, .fv 5 _ h_read_header⟩, ⟨306, .fv 5 _ h_read_block_head⟩, ⟨171, .fv 3 _ h_Octets_take⟩, ⟨192, .fv 4 _ h_Octets_little⟩]) (defS 2 [] 5 (wSeq (wSet 2 (tAttr .octets 2 (tVar 0))) (wSeq (wIf (tTrue (tCall (l1 (tCall (l1 (tVar 0) (l1 (tVar 1) l0)) cNext) l0) cIsSk)) (wSeq (wExp (tCall (l1 (tVar 0) l0) cSkip)) (wSeq (wRet (tNewF .fspan (l1 (tVar 2) (l1 (tAttr .octets 2 (tVar 0)) (l1 (tD .none) (l1 (tList l0) l0)))) ((cIni .fspan 4)))) wSkip)) wSkip) (wSeq (wTg (gTS [5, 4, 3]) (tTup (l1 (tCall (l1 (tVar 0) l0) cHdr) (l1 (tNewL l0) (l1 (tD (.bool false)) l0))))) (wSeq (wWhile (tNot (tTrue (tVar 5))) (wSeq (wSet 6 (tCall (l1 (tVar 0) l0) cBh)) (wSeq (wIf (tTrue (t2 (tAttr .bhead 1 (tVar 6)) (tD (.int 3)) oEq)) (wSeq (wRaise .block (tD (.str "a reserved kind of block"))) wSkip) wSkip) (wSeq (wExp (tMeth .octets (tVar 0) (l1 (eJ (tIf (tTrue (t2 (tAttr .bhead 1 (tVar 6)) (tD (.int 1)) oEq)) (tD (.int 1)) (tAttr .bhead 2 (tVar 6)))) l0) cTake)) (wSeq (wExp (tApp (tVar 4) (tTup (l1 (tAttr .bhead 1 (tVar 6)) (l1 (tAttr .bhead 2 (tVar 6)) l0))))) (wSeq (wSet 5 (tAttr .bhead 0 (tVar 6))) wSkip)))))) (wSeq (wIf (tTrue (tAttr .fheader 3 (tVar 3))) (wSeq (wExp (tMeth .octets (tVar 0) (l1 (tD (.int 4)) l0) cLit)) wSkip) wSkip) (wSeq (wRet (tNewF .fspan (l1 (tVar 2) (l1 (tAttr .octets 2 (tVar 0)) (l1 (tVar 3) (l1 (tVar 4) l0)))) ((cIni .fspan 4)))) wSkip))))))) [] [] (by with_unfolding_all rfl) bind_meas (fun _ _ _ _ _ => .nil) fun x Q Ex h => by
    walk_at "wh"
    refine .mk (cuN x.1.2.1 x.1.2.2) (br_map h (fun _ h => h) fun hc h => Rn_cond h (fun _ h => h) fun _ h => ?_)
    walk_at "wh"
    refine .mk _ ?_
    walk_at "wh"
    refine br_of (fun e => ?_) (fun e => ?_)
    · walk_at "wh"
      refine .mk (cuC x.1.2.1) (br_f hc (Rn_mono (Rn_bind (Rn_t h (of_decide_eq_true e))) (fun v c h => ?_) fun _ h => h))
      walk_at "wh"
      refine ⟨fun l hl hc => .mk (⟨l, hl, hc⟩ : Fl 4) ⟨rfl, rfl⟩, ?_⟩
      walk_at "wh"
      exact h
    walk_at "wh"
    refine .mk (cuC x.1.2.1) (br_f hc (Rn_mono (Rn_bind (Rn_f h (of_decide_eq_false e))) (fun hd c h => ?_) fun _ h => h))
    walk_at "wh"
    refine while_st (σ := MS N x.1.1 hd (fun v c => Q (spI x.1.2.1.i c.i v) [octC c]) (fun e => ∀ q : Int, Ex e [octI x.1.1 q])) (·.f) (fun s => ([some (.hi 0 .octets), some (nD x.1.2.2), some (nD x.1.2.1.i), some hd.I, some (.hl 1), some (.bool s.last), s.x], [octC s.c, .list s.ad])) (fun s C hC => ?_) ⟨N, [], false, none, c, [], rfl, Nat.zero_add _, fun _ => ⟨?_, Rn_bind h⟩, fun q => nomatch q⟩
    · walk_at "wh"
      refine br_of (fun e => ?_) (fun e => ?_)
      · have hl := s.hl (not_t e)
        obtain ⟨f, hf⟩ : ∃ f, s.f = f + 1 := Nat.exists_eq_add_one_of_ne_zero fun q => Nat.not_le.mpr hl.1 (by rw [q]; exact s.c.hi)
        have h := hl.2
        rw [hf] at h
        walk_at "wh"
        refine .mk (cuC s.c) (Rn_bh (Rn_bind h) (fun b c hi h => ?_) fun _ h => h)
        walk_at "wh"
        refine br_of (fun e => ?_) (fun e => ?_)
        · walk_at "wh"
          exact Rn_t h (eq_t e) _
        have h := Rn_f h (eq_f e)
        walk_at "wh"
        refine join_e (σ := { n : Nat // (if b.2.1 = 1 then 1 else b.2.2) = n }) (fun n => (nD n.1, [octC c, .list s.ad])) (fun C hC => ?_) (fun n => ?_)
        · walk_at "wh"
          refine br_of (fun e => ?_) (fun e => ?_)
          · walk_at "wh"
            exact hC ⟨1, if_pos (eq_t e)⟩
          · walk_at "wh"
            exact hC ⟨b.2.2, if_neg (eq_f e)⟩
        walk_at "wh"
        rw [n.2] at h
        refine .mk (cuN c n.1) (Rn_ge (Rn_bind h) (fun l c' hi' h => ?_) fun _ h => h)
        walk_at "wh"
        refine ⟨?_, ?_⟩
        · rw [s.ha, List.length_map]; exact len_le s.hf hf hN
        refine hC ⟨f, s.acc ++ [(b.2.1, b.2.2)], b.1, _, c', _, by rw [s.ha, List.map_append]; rfl, ?_, fun q => ⟨?_, Rn_f h (by rw [q]; exact Bool.false_ne_true)⟩, fun q => by have h := Rn_t h q; exact h⟩ (Nat.lt_of_lt_of_eq (Nat.lt_succ_self f) hf.symm)
        · exact len_app s.hf hf
        · exact left_lt hl.1 hf hi hi'
      · walk_at "wh"
        have ht := s.ht (not_f e)
        refine br_of (fun e => ?_) (fun e => ?_)
        · walk_at "wh"
          refine .mk (cuN s.c n4) (Rn_mono (Rn_bind (Rn_t ht e)) (fun _ c h => ?_) fun _ h => h)
          walk_at "wh"
          refine ⟨fun l hl hc => .mk (⟨l, hl, hc⟩ : Fl 4) ⟨rfl, rfl⟩, ?_⟩
          walk_at "wh"
          refine need_of (frz_span hd) ?_
          exact at_ (P := fun l => Q (.inst .fspan [_, _, _, .list l]) [octC c]) s.ha h
        · walk_at "wh"
          refine ⟨fun l hl hc => .mk (⟨l, hl, hc⟩ : Fl 4) ⟨rfl, rfl⟩, ?_⟩
          walk_at "wh"
          refine need_of (frz_span hd) ?_
          have h := Rn_f ht (by rw [e]; exact Bool.false_ne_true)
          exact at_ (P := fun l => Q (.inst .fspan [_, _, _, .list l]) [octC s.c]) s.ha h
    · exact len_lt x.2 hN
section
variable {N : Nat} {first : Bool} {fs : List Sp} {w : Option Exn} {L : Buf} {c : Cur L}
theorem Stp.rn {K : Option Hd × Bl → Cur L → Prop} {E : Exn → Prop} (h : Stp N first c.i (L.1.drop c.i) fs w) (hr : 0 < L.1.length - c.i) (he : ∀ e, fs = [] → w = some e → E e)
    (hk : ∀ v (c' : Cur L) fs', c.i < c'.i → fs = ⟨c.i, c'.i, v.1, v.2⟩ :: fs' → Stp N false c'.i (L.1.drop c'.i) fs' w → K v c') : Rn (measP N first) c K E := by
  generalize hb : c.i = b at h
  generalize hq : L.1.drop b = r at h
  have hl : r.length = L.1.length - c.i := by rw [← hq, List.length_drop, hb]
  subst hb
  cases h with
  | nil => exact absurd hl.symm (Nat.ne_of_gt hr)
  | err q1 q2 =>
    exact Rn_of (fun a n q => by rw [hq, q2] at q; exact nomatch q) fun e q => by
      rw [hq, q2] at q
      cases q; exact he _ rfl rfl
  | @ok _ _ n _ v fs w q1 q2 =>
    exact Rn_of (fun a m q => by
      rw [hq, q1] at q
      cases q
      obtain ⟨_, g1, g2⟩ := meas_ok q1
      have ha : (c.adv n).i = c.i + n := Nat.min_eq_left (by have := c.hi; lia)
      refine hk _ (c.adv n) fs (by rw [ha]; exact Nat.lt_add_of_pos_right (Nat.lt_of_lt_of_le (by decide) g1)) (by rw [ha]) ?_
      rw [← hq, List.drop_drop] at q2
      rw [ha]; exact q2) fun e q => by rw [hq, q1] at q; exact nomatch q
theorem Stp.fin {b : Nat} (h : Stp N first b (L.1.drop c.i) fs w) (hz : L.1.length - c.i ≤ 0) : fs = [] ∧ w = none := by
  rw [List.drop_of_length_le (Nat.le_of_sub_eq_zero (Nat.le_zero.mp hz))] at h
  exact h.det .nil
end
def Sp.I (s : Sp) : D := spI s.b s.e (s.told, s.blocks)
structure ISp (N : Nat) where
  l : List UInt8
  hl : l.length ≤ 1000000
  fs : List Sp
  w : Option Exn
  h : Stp N true 0 l fs w
abbrev ISp.L {N : Nat} (x : ISp N) : Buf := ⟨x.l, Nat.le_trans x.hl (by decide)⟩
abbrev eSp {N : Nat} (x : ISp N) : List D × List MO := ([.bytes x.l], [])
abbrev cSpans (N : Nat) : PF := sp (eSp (N := N)) fun x Q Ex => (x.w = none → Q (.list (x.fs.map Sp.I)) []) ∧ ∀ e, x.w = some e → Ex e []
/-- between frames -/
structure SS {N : Nat} (x : ISp N) (f : Sp → D) where
  c : Cur x.L
  f1 : List Sp
  f2 : List Sp
  ad : List D
  ha : ad = f1.map f
  hf : f1 ++ f2 = x.fs
  hs : Stp N (decide (ad.length = 0)) c.i (x.l.drop c.i) f2 x.w
  hc : ad.length ≤ c.i
theorem SS.len {N : Nat} {x : ISp N} {f : Sp → D} (s : SS x f) : s.ad.length ≤ 1000000 := Nat.le_trans s.hc (Nat.le_trans s.c.hi x.hl)
def SS.nx {N : Nat} {x : ISp N} {f : Sp → D} (s : SS x f) (c : Cur x.L) (t : Sp) (f2 : List Sp) (h1 : s.c.i < c.i) (h2 : s.f2 = t :: f2) (h3 : Stp N false c.i (x.l.drop c.i) f2 x.w) : SS x f :=
  ⟨c, s.f1 ++ [t], f2, s.ad ++ [f t], by rw [s.ha, List.map_append]; rfl, by rw [← s.hf, h2, List.append_assoc]; rfl, by rw [List.length_append]; exact h3, by rw [List.length_append]; exact Nat.le_trans (Nat.succ_le_succ s.hc) h1⟩
def SS.st {N : Nat} (x : ISp N) (f : Sp → D) : SS x f := ⟨⟨0, Nat.zero_le _⟩, [], x.fs, [], rfl, rfl, x.h, Nat.le_refl _⟩
theorem SS.fin {N : Nat} {x : ISp N} {f : Sp → D} (s : SS x f) (hz : x.l.length - s.c.i ≤ 0) : x.w = none ∧ s.ad = x.fs.map f := by
  have h := Stp.fin (L := x.L) s.hs hz
  exact ⟨h.2, by rw [s.ha, ← s.hf, h.1, List.append_nil]⟩
def amt : List (Option Hd) → Option Nat
  | [] => some 0
  | none :: r => amt r
  | some h :: r => match h.size with
    | none => none
    | some n => (amt r).map (n + ·)
theorem clD_hdI : ∀ o : Option Hd, clD (hdI o) = true
  | none => rfl
  | some ⟨w, s, _, _, _⟩ => by cases w <;> cases s <;> rfl
theorem clDs_bl : ∀ b : Bl, clDs (b.map blD) = true
  | [] => rfl
  | _ :: b => clDs_bl b
theorem clD_sp (i j : Nat) (v : Option Hd × Bl) : clD (spI i j v) = true := show (true && (true && (clD (hdI v.1) && (clDs (v.2.map blD) && true)))) = true from and_i rfl (and_i rfl (and_i (clD_hdI _) (and_i (clDs_bl _) rfl)))
abbrev cSize (N : Nat) : PF := sp (fun x : { x : ISp N // x.w = none } => eSp x.1) fun x Q _ => Q (onD (amt (x.1.fs.map (·.told)))) []
theorem nv_hdI : ∀ o : Option Hd, (hdI o).notVal = true
  | none => rfl
  | some _ => rfl
theorem map_zero : ∀ o : Option Nat, o = o.map (0 + ·)
  | none => rfl
  | some n => congrArg some (Nat.zero_add n).symm
theorem drop_at {α : Type} {l : List α} {i : Nat} {a : α} (h : l[i]? = some a) : l.drop i = a :: l.drop (i + 1) := by
  obtain ⟨hl, e⟩ := List.getElem?_eq_some_iff.mp h
  rw [List.drop_eq_getElem_cons hl, e]
theorem c_spans {N : Nat} (O : ((GG prog w h₀ mg mb tabs tq)).Ok) (h_Octets___init__ : FK (GG prog w h₀ mg mb tabs tq) 3 150 cInitO1) (h_Octets_left : FK (GG prog w h₀ mg mb tabs tq) 1 157 cLeft) (h_measure : FK (GG prog w h₀ mg mb tabs tq) 6 349 (cMeas N)) : FK (GG prog w h₀ mg mb tabs tq) 7 356 ((cSpans N)) :=
  FV_ct (LX O [⟨209, .nh .octets _ 3 _ rfl newOk_octets h_Octets___init__⟩, ⟨157, .fv 1 _ h_Octets_left⟩, ⟨349, .fv 6 _ h_measure⟩]) (defS 1 [] 2 (wSeq (wTg (gTS [2, 1]) (tTup (l1 (tNewH .octets (l1 (tVar 0) l0) cInitO1) (l1 (tNewL l0) l0)))) (wSeq (wWhile (tTrue (t2 (tMeth .octets (tVar 1) l0 cLeft) (tD (.int 0)) oGt)) (wSeq (wExp (tApp (tVar 2) (tCall (l1 (tVar 1) (l1 (tBi (l1 (tVar 2) l0) tLen) l0)) ((cMeas N))))) wSkip)) (wSeq (wRet (tVar 2)) wSkip)))) [] [] rfl (.simple rfl) (fun _ _ _ _ _ => .nil) fun x Q Ex h => by
    walk_at "wh"
    refine .mk x.L ⟨rfl, ?_⟩
    walk_at "wh"
    refine while_st (σ := SS x Sp.I) (fun s => x.l.length - s.c.i) (fun s => ([some (.bytes x.l), some (.hi 0 .octets), some (.hl 1)], [octC s.c, .list s.ad])) (fun s C hC => ?_) (.st x Sp.I)
    walk_at "wh"
    refine .mk (cuC s.c) ?_
    walk_at "wh"
    refine br_of (fun e => ?_) (fun e => ?_)
    · walk_at "gd"
      · exact ble_of (Nat.le_trans s.len (by decide))
      walk_at "wh"
      refine .mk (⟨cuN s.c s.ad.length, x.hl⟩ : IMeas) (s.hs.rn (L := x.L) (lt_t e) (fun e _ hw q => h.2 e hw) fun v c fs h1 h2 h3 => ?_)
      walk_at "gd"
      · exact clD_sp _ _ _
      exact ⟨s.len, hC (s.nx c ⟨_, _, _, _⟩ fs h1 h2 h3) (Nat.sub_lt_sub_left (Nat.lt_of_sub_pos (lt_t e)) h1)⟩
    · have hf := s.fin (lt_f e)
      walk_at "wh"
      exact at_ (P := fun l => Q (.list l) []) hf.2 (h.1 hf.1)
theorem c_size {N : Nat} (O : ((GG prog w h₀ mg mb tabs tq)).Ok) (h_spans : FK (GG prog w h₀ mg mb tabs tq) 7 356 (cSpans N)) : FK (GG prog w h₀ mg mb tabs tq) 8 363 ((cSize N)) :=
  FV_ct (LX O [⟨356, .fv 7 _ h_spans⟩]) (defS 1 [] 2 (wSeq (wSet 1 (tD (.int 0))) (wSeq (wFor (iList (tCall (l1 (tVar 0) l0) ((cSpans N)))) (gN 2) (wSeq (wIf (tTrue (t2 (tAttr .fspan 2 (tVar 2)) (tD .none) oIsn)) (wSeq (wIf (tTrue (t2 (tAttr .fheader 1 (tAttr .fspan 2 (tVar 2))) (tD .none) oIs)) (wSeq (wRet (tD .none)) wSkip) wSkip) (wSeq (wAug 1 (tAttr .fheader 1 (tAttr .fspan 2 (tVar 2))) oAdd) wSkip)) wSkip) wSkip)) (wSeq (wRet (tVar 1)) wSkip)))) [] [] rfl (.simple rfl) (fun _ _ _ _ _ => .nil) fun x Q Ex h => by
    walk_at "wh"
    refine .mk x.1 ⟨fun _ => ?_, fun e q => nomatch x.2.symm.trans q⟩
    walk_at "wh"
    refine for_map (σ := fun i => { n : Nat × Option D // amt (x.1.fs.map (·.told)) = (amt ((x.1.fs.drop i).map (·.told))).map (n.1 + ·) }) (fun i n => ([some (.bytes x.1.l), some (nD n.1.1), n.1.2], [])) (fun i n s C e hC => ?_) (fun n => ?_) ⟨(0, none), ?_⟩
    · have hn := n.2.trans (congrArg (fun l => (amt (l.map (·.told))).map (n.1.1 + ·)) (drop_at e))
      obtain ⟨b, e, t, bl⟩ := s
      cases t with
      | none =>
        walk_at "wh"
        exact hC ⟨(n.1.1, some _), hn⟩
      | some hd =>
        obtain ⟨wi, sz, id, ck, sg⟩ := hd
        cases sz with
        | none =>
          walk_at "wh"
          exact at_ (P := fun z => Q (onD z) []) hn.symm h
        | some z =>
          walk_at "wh"
          refine hC ⟨(n.1.1 + z, _), hn.trans ?_⟩
          exact (Option.map_map _ _ _).trans (congrArg (fun f => Option.map f _) (funext fun y => (Nat.add_assoc _ _ _).symm))
    · walk_at "wh"
      have hn := n.2.trans (congrArg (fun l : List Sp => Option.map (n.1.1 + ·) (amt (l.map (·.told)))) List.drop_length)
      exact at_ (P := fun z => Q z []) (congrArg onD hn).symm h
    · exact map_zero _
abbrev J := Nat × Nat
abbrev jm (j : J) : MO := .list [nD j.1, nD j.2]
abbrev tkB (n : Nat) : Bool := Nat.ble 1 n && Nat.ble n 1073741823
abbrev ITk := { x : J × Nat // tkB x.2 = true }
abbrev eJ1 (j : J) (n : Nat) : List D × List MO := ([.hl 0, nD n], [jm j])
abbrev cTk : PF := sp (fun x : ITk => eJ1 x.1.1 x.1.2) fun x Q _ => ∀ c j, c < x.1.2 → Q (nD c) [jm j]
abbrev ISome := { x : J × Nat // x.2 ≤ 1000 }
abbrev cSome : PF := sp (fun x : ISome => eJ1 x.1.1 x.1.2) fun x Q _ => ∀ (l : List UInt8) j, l.length = x.1.2 → Q (.bytes l) [jm j]
def low (v n : Nat) : List UInt8 := (List.range n).map fun s => UInt8.ofNat (v / 256 ^ s % 256)
abbrev ILow := Nat × { n : Nat // n ≤ 4 }
abbrev cLow : PF := sp (fun x : ILow => ([nD x.1, nD x.2.1], [])) fun x Q _ => Q (.bytes (low x.1 x.2.1)) []
abbrev ISum := { l : List UInt8 // l.length ≤ 100 }
abbrev cSum : PF := sp (fun l : ISum => eBytes l.1) fun l Q _ => Q (nD (le l.1)) []
abbrev bD (b : UInt8) : D := nD b.toNat
theorem ints_bytes : ∀ l : List UInt8, intsD (l.map bD) = some (l.map fun b => .ofNat b.toNat)
  | [] => rfl
  | b :: l => by
    show (intsD (l.map bD)).map (.ofNat b.toNat :: ·) = _
    rw [ints_bytes l]; rfl
theorem octs_cons {n : Nat} {r : List Int} {l : List UInt8} (h : n < 256) (e : octsI r = some l) : octsI (.ofNat n :: r) = some (n.toUInt8 :: l) := by
  show (if n < 256 then (octsI r).map (n.toUInt8 :: ·) else none) = _
  rw [if_pos h, e]; rfl
theorem octs_bytes : ∀ l : List UInt8, octsI (l.map fun b => .ofNat b.toNat) = some l
  | [] => rfl
  | b :: l => (octs_cons b.toNat_lt (octs_bytes l)).trans (congrArg (fun c => some (c :: l)) (by simp))
theorem bytes_of {μ : List MO} {l : List UInt8} {Q : D → Prop} (hl : l.length ≤ 16777216) (h : Q (.bytes l)) : tBytes μ [.list (l.map bD)] Q :=
  need_of (ints_bytes l) (need_of (octs_bytes l) (guard_of (ble_of (Nat.le_trans (Nat.le_of_eq (List.length_map _)) hl)) h))
theorem or_r {a b : Bool} (h : b = true) : (a || b) = true := by rw [h, Bool.or_true]
theorem snoc_b {acc : List D} {l : List UInt8} {c : Nat} (h : acc = l.map bD) (hc : c < 256) : acc ++ [nD c] = (l ++ [UInt8.ofNat c]).map bD := by
  rw [List.map_append, h]
  show _ = _ ++ [nD (UInt8.ofNat c).toNat]
  rw [UInt8.toNat_ofNat', Nat.mod_eq_of_lt hc]
theorem len_snoc {α : Type} {l : List α} {a : α} {i : Nat} (h : l.length = i) : (l ++ [a]).length = i + 1 := by rw [List.length_append, h]; rfl
theorem low_snoc (v n : Nat) : low v (n + 1) = low v n ++ [UInt8.ofNat (v / 256 ^ n % 256)] := by
  unfold low; rw [List.range_succ, List.map_append]; rfl
theorem low_len (v n : Nat) : (low v n).length = n := by unfold low; rw [List.length_map, List.length_range]
theorem mod_byte (v : Nat) : (UInt8.ofNat (v % 256)).toNat = v % 256 := by
  rw [UInt8.toNat_ofNat']; exact Nat.mod_mod v 256
theorem pow_ok {i : Nat} (h : i < 4) : tkB (256 ^ i) = true := by rcases lt4 h with rfl | rfl | rfl | rfl <;> rfl
theorem ints_snoc {acc : List D} {is : List Int} {z : Int} (h : intsD acc = some is) : intsD (acc ++ [.int z]) = some (is ++ [z]) := by
  induction acc generalizing is with
  | nil => cases h; rfl
  | cons d r ih =>
    cases d with
    | int i =>
      obtain ⟨js, h1, rfl⟩ := Option.map_eq_some_iff.mp (show (intsD r).map (i :: ·) = some is from h)
      show (intsD (r ++ [.int z])).map (i :: ·) = _
      rw [ih h1]; rfl
    | _ => exact nomatch h
theorem le_add {l : List UInt8} {i : Nat} {c : UInt8} (h : l[i]? = some c) : le (l.take (i + 1)) = le (l.take i) + c.toNat * 256 ^ i := by
  obtain ⟨hl, hc⟩ := List.getElem?_eq_some_iff.mp h
  have h2 := le_snoc (l.take i) c
  rw [List.length_take, Nat.min_eq_left (Nat.le_of_lt hl), Nat.pow_mul] at h2
  rw [List.take_add_one, h]; exact h2
theorem l_take (O : ((GG prog w h₀ mg mb tabs tq)).Ok) : FK (GG prog w h₀ mg mb tabs tq) 2 377 cTk :=
  FV_ct (LX O []) (defS 2 [] 1 (wSeq (wIf (tTrue (t2 (t2 (tVar 0) (tD (.int 0)) tItem) (tD (.int 0)) oGt)) (wSeq (wSet 2 (t2 (t2 (tVar 0) (tD (.int 0)) tItem) (tVar 1) oMod)) (wSeq (wItem (t2 (t2 (tVar 0) (tD (.int 0)) tItem) (tVar 1) oDiv) (tVar 0) (tD (.int 0))) (wSeq (wRet (tVar 2)) wSkip))) wSkip) (wSeq (wItem (t2 (t2 (t2 (tVar 0) (tD (.int 1)) tItem) (tD (.int 48271)) oMul) (tD (.int 2147483647)) oMod) (tVar 0) (tD (.int 1))) (wSeq (wRet (t2 (t2 (t2 (tVar 0) (tD (.int 1)) tItem) (tD (.int 1024)) oDiv) (tVar 1) oMod)) wSkip)))) [] [] rfl (.simple rfl) (fun _ _ _ _ _ => .nil) fun x Q Ex h => by
    walk_at "wh"
    refine br_of (fun e => ?_) (fun e => ?_)
    · walk_at "gd"
      · exact (and2 x.2).1
      walk_at "gd"
      · exact x.2
      walk_at "wh"
      refine ⟨Nat.le_of_ble_eq_true rfl, ?_⟩
      walk_at "wh"
      exact h _ (_, _) (Nat.mod_lt _ (Nat.le_of_ble_eq_true (and2 x.2).1))
    · walk_at "wh"
      refine ⟨Nat.le_of_ble_eq_true rfl, ?_⟩
      walk_at "gd"
      · exact (and2 x.2).1
      walk_at "wh"
      exact h (x.1.1.2 * 48271 % 2147483647 / 1024 % x.1.2) (x.1.1.1, x.1.1.2 * 48271 % 2147483647) (Nat.mod_lt _ (Nat.le_of_ble_eq_true (and2 x.2).1))
theorem l_some (O : ((GG prog w h₀ mg mb tabs tq)).Ok) (h__law_take : FK (GG prog w h₀ mg mb tabs tq) 2 377 cTk) : FK (GG prog w h₀ mg mb tabs tq) 4 382 cSome :=
  FV_ct (LX O [⟨377, .fv 2 _ h__law_take⟩]) (defS 2 [] 0 (wSeq (wRet (tBi (l1 (tComp ([none, none, some 0]) (iRange (tVar 1)) (gN 1) (tB true) (tCall (l1 (tVar 2) (l1 (tD (.int 256)) l0)) cTk)) l0) tBytes)) wSkip)) [] [] rfl (.simple rfl) (fun _ _ _ _ _ => .nil) fun x Q Ex h => by
    walk_at "wh"
    refine ⟨Nat.le_trans x.2 (by decide), ?_⟩
    walk_at "gd"
    · rw [range_len]; exact ble_of (Nat.le_trans x.2 (by decide))
    refine comp_range (σ := fun i => { s : List D × List UInt8 × J × Option D // s.1 = s.2.1.map bD ∧ s.2.1.length = i }) (fun i s => (s.1.1, [none, s.1.2.2.2, some (.hl 0)], [jm s.1.2.2.1])) (fun i s Z hi hZ => ?_) (fun s => ?_) ⟨([], [], x.1.1, none), rfl, rfl⟩
    · walk_at "wh"
      refine .mk (⟨(s.1.2.2.1, 256), rfl⟩ : ITk) fun c j hc => ?_
      walk_at "wh"
      exact hZ ⟨(_, _, j, _), snoc_b s.2.1 hc, len_snoc s.2.2⟩
    · refine at_ (P := fun l => tBytes _ [.list l] _) s.2.1 (bytes_of (by rw [s.2.2]; exact Nat.le_trans x.2 (by decide)) ?_)
      walk_at "wh"
      exact h _ _ s.2.2
theorem l_low (O : ((GG prog w h₀ mg mb tabs tq)).Ok) : FK (GG prog w h₀ mg mb tabs tq) 2 387 cLow :=
  FV_ct (LX O []) (defS 2 [] 0 (wSeq (wRet (tBi (l1 (tComp ([none, none, some 0]) (iRange (tVar 1)) (gN 1) (tB true) (t2 (t2 (tVar 2) (t2 (tD (.int 256)) (tVar 1) oPow) oDiv) (tD (.int 256)) oMod)) l0) tBytes)) wSkip)) [] [] rfl (.simple rfl) (fun _ _ _ _ _ => .nil) fun x Q Ex h => by
    walk_at "wh"
    refine ⟨Nat.le_trans x.2.2 (by decide), ?_⟩
    walk_at "gd"
    · rw [range_len]; exact ble_of (Nat.le_trans x.2.2 (by decide))
    refine comp_range (σ := fun i => { s : List D × Option D // s.1 = (low x.1 i).map bD }) (fun i s => (s.1.1, [none, s.1.2, some (nD x.1)], [])) (fun i s Z hi hZ => ?_) (fun s => ?_) ⟨([], none), rfl⟩
    · walk_at "gd"
      · exact and_i (ble_of (Nat.le_trans (Nat.le_of_lt (Nat.lt_of_lt_of_le hi x.2.2)) (by decide))) rfl
      walk_at "gd"
      · exact pow_ok (Nat.lt_of_lt_of_le hi x.2.2)
      walk_at "wh"
      exact hZ ⟨(_, _), (snoc_b s.2 (Nat.mod_lt _ (by decide))).trans (congrArg (List.map bD) (low_snoc _ _).symm)⟩
    · refine at_ (P := fun l => tBytes _ [.list l] _) s.2 (bytes_of (by rw [low_len]; exact Nat.le_trans x.2.2 (by decide)) ?_)
      walk_at "wh"
      exact h
theorem l_sum (O : ((GG prog w h₀ mg mb tabs tq)).Ok) : FK (GG prog w h₀ mg mb tabs tq) 2 392 cSum :=
  FV_ct (LX O []) (defS 1 [] 0 (wSeq (wRet (tBi (l1 (tComp ([none, none, some 0]) (iRange (tBi (l1 (tVar 0) l0) tLen)) (gN 1) (tB true) (t2 (t2 (tVar 2) (tVar 1) tItem) (t2 (tD (.int 256)) (tVar 1) oPow) oMul)) l0) tSum)) wSkip)) [] [] rfl (.simple rfl) (fun _ _ _ _ _ => .nil) fun x Q Ex h => by
    walk_at "gd"
    · exact ble_of (Nat.le_trans x.2 (by decide))
    walk_at "wh"
    refine ⟨Nat.le_trans x.2 (by decide), ?_⟩
    walk_at "gd"
    · rw [range_len]; exact ble_of (Nat.le_trans x.2 (by decide))
    refine comp_range (σ := fun i => { s : List D × List Int × Option D // intsD s.1 = some s.2.1 ∧ s.2.1.sum = .ofNat (le (x.1.take i)) }) (fun i s => (s.1.1, [none, s.1.2.2, some (.bytes x.1)], [])) (fun i s Z hi hZ => ?_) (fun s => ?_) ⟨([], [], none), rfl, rfl⟩
    · walk_at "wh"
      refine ⟨hi, Nat.le_trans x.2 (by decide), ?_⟩
      walk_at "gd"
      · exact and_i (ble_of (Nat.le_trans (Nat.le_of_lt (Nat.lt_of_lt_of_le hi x.2)) (by decide))) rfl
      walk_at "gd"
      · exact or_r (ble_of (Nat.le_trans (Nat.le_of_lt (UInt8.toNat_lt _)) (by decide)))
      walk_at "wh"
      refine hZ ⟨(_, _, _), ints_snoc s.2.1, ?_⟩
      rw [List.sum_append, s.2.2, le_add (List.getElem?_eq_getElem hi), List.getD_eq_getElem?_getD, List.getElem?_eq_getElem hi]
      rfl
    · walk_at "wh"
      refine need_of s.2.1 ?_
      walk_at "wh"
      refine at_ (P := fun z => Q (.int z) []) s.2.2 ?_
      exact at_ (P := fun l => Q (nD (le l)) []) List.take_length h
abbrev tdD : Option Hd → D := optD Hd.T
def Sp.T (s : Sp) : D := .tup [nD s.b, nD s.e, tdD s.told, blsD s.blocks]
abbrev spsD (fs : List Sp) : D := .list (fs.map Sp.T)
def Fr.T (f : Fr) : D := .tup [.bytes f.body, tdD f.told, blsD f.blocks]
abbrev frsD (fs : List Fr) : D := .list (fs.map Fr.T)
def word : Exn → Str
  | .short => "short"
  | .header => "header"
  | .block => "block"
  | .trailing => "trailing"
  | .older => "older"
  | .badarg => "badarg"
abbrev IBig := { l : List UInt8 // l.length ≤ 1000000 }
abbrev cBeg : PF := sp (fun l : IBig => eBytes l.1) fun l Q _ => Q (.bool (begins l.1)) []
abbrev cOth : PF := sp (fun l : IBig => eBytes l.1) fun l Q _ => Q (.str (word (otherE l.1))) []
abbrev cToldL : PF := sp (fun s : Sp => ([s.I], [])) fun s Q _ => Q s.T []
abbrev ILed := { x : List Sp × Nat // x.1.length ≤ 1000000 }
abbrev cLed : PF := sp (fun x : ILed => ([spsD x.1.1, nD x.1.2], [])) fun x Q _ => Q (spsD (x.1.1.map (·.sh x.1.2))) []
abbrev IRow := { gs : List Fr // gs.length ≤ 1000 ∧ (cat gs).length ≤ 1000000 }
abbrev cRow : PF := sp (fun gs : IRow => ([frsD gs.1], [])) fun gs Q _ => Q (.tup [.bytes (cat gs.1), spsD (rowS 0 gs.1)]) []
abbrev IAmt := { fs : List Sp // fs.length ≤ 1000 }
abbrev cAmt : PF := sp (fun fs : IAmt => ([spsD fs.1], [])) fun fs Q _ => Q (onD (amt (fs.1.map (·.told)))) []
theorem clD_td : ∀ o : Option Hd, clD (tdD o) = true
  | none => rfl
  | some ⟨w, s, _, _, _⟩ => by cases w <;> cases s <;> rfl
theorem clD_spT (s : Sp) : clD s.T = true := show (true && (true && (clD (tdD s.told) && (clDs (s.blocks.map blD) && true)))) = true from and_i rfl (and_i rfl (and_i (clD_td _) (and_i (clDs_bl _) rfl)))
theorem clD_frT (s : Fr) : clD s.T = true := show (true && (clD (tdD s.told) && (clDs (s.blocks.map blD) && true))) = true from and_i rfl (and_i (clD_td _) (and_i (clDs_bl _) rfl))
theorem clDs_map {α : Type} {f : α → D} (h : ∀ a, clD (f a) = true) : ∀ l : List α, clDs (l.map f) = true
  | [] => rfl
  | a :: l => and_i (h a) (clDs_map h l)
theorem acc_snoc {α β : Type} {l : List α} {f : α → β} {acc : List β} {i : Nat} {a : α} (h : acc = (l.take i).map f) (e : l[i]? = some a) : acc ++ [f a] = (l.take (i + 1)).map f := by
  rw [List.take_add_one, e, List.map_append, h]; rfl
theorem row_ok {gs : List Fr} {i : Nat} {a : Fr} {s : List UInt8} {t : List D} (h1 : gs.length ≤ 1000) (h2 : (cat gs).length ≤ 1000000) (e : gs[i]? = some a) (hs : s = cat (gs.take i)) (ht : t = (rowS 0 (gs.take i)).map Sp.T) :
    s.length ≤ 1000000000 ∧ a.body.length ≤ 1000000000 ∧ t.length ≤ 1000000 ∧ s.length + a.body.length ≤ 16777216 ∧ s ++ a.body = cat (gs.take (i + 1)) ∧ t ++ [Sp.T ⟨s.length, s.length + a.body.length, a.told, a.blocks⟩] = (rowS 0 (gs.take (i + 1))).map Sp.T := by
  have hl : (cat (gs.take i)).length + (a.body.length + (cat (gs.drop (i + 1))).length) = (cat gs).length := by
    conv => rhs; rw [← List.take_append_drop i gs, drop_at e, cat_append, cat]
    rw [List.length_append, List.length_append]
  have h3 : (gs.take i).length ≤ gs.length := by rw [List.length_take]; exact Nat.min_le_right _ _
  rw [hs, ht, List.length_map, rowS_length, List.take_add_one, e, cat_append, rowS_append, List.map_append]
  refine ⟨by lia, by lia, by lia, by lia, ?_, ?_⟩
  · show _ = _ ++ (a.body ++ []); rw [List.append_nil]
  · rw [Nat.zero_add]; rfl
theorem in_old : ∀ n < 256, inB [.int 30, .int 34, .int 35, .int 36, .int 37, .int 38, .int 39] (nD n) = decide (n = 30 ∨ (34 ≤ n ∧ n ≤ 39)) := by decide +kernel
theorem sh_map (k : Nat) (fs : List Sp) : (fs.map fun s => (s.sh k).T) = (fs.map (·.sh k)).map Sp.T := by rw [List.map_map]; rfl
def szs : List (Option Hd) → List (Option Nat)
  | [] => []
  | none :: r => szs r
  | some h :: r => h.size :: szs r
theorem szs_append (a b : List (Option Hd)) : szs (a ++ b) = szs a ++ szs b := by
  induction a with
  | nil => rfl
  | cons x a ih => cases x with
    | none => exact ih
    | some h => exact congrArg (h.size :: ·) ih
theorem szs_snoc {l : List Sp} {acc : List D} {i : Nat} {a : Sp} (h : acc = (szs ((l.take i).map (·.told))).map onD) (e : l[i]? = some a) : acc ++ (szs [a.told]).map onD = (szs ((l.take (i + 1)).map (·.told))).map onD := by
  rw [List.take_add_one, e, List.map_append, szs_append, List.map_append, h]; rfl
theorem amt_szs : ∀ l : List (Option Hd), (amt l = none ∧ none ∈ szs l) ∨ (∃ ns : List Nat, szs l = ns.map some ∧ amt l = some ns.sum)
  | [] => .inr ⟨[], rfl, rfl⟩
  | none :: r => amt_szs r
  | some ⟨w, none, i, c, g⟩ :: r => .inl ⟨rfl, .head _⟩
  | some ⟨w, some z, i, c, g⟩ :: r => by
    rcases amt_szs r with ⟨h1, h2⟩ | ⟨ns, h1, h2⟩
    · exact .inl ⟨congrArg (Option.map (z + ·)) h1, .tail _ h2⟩
    · exact .inr ⟨z :: ns, congrArg (some z :: ·) h1, congrArg (Option.map (z + ·)) h2⟩
theorem ok_on (n : Nat) : ∀ o : Option Nat, okD n (onD o) = true
  | none => rfl
  | some _ => rfl
theorem oks_on : ∀ l : List (Option Nat), okDs 32 (l.map onD) = true
  | [] => rfl
  | x :: l => and_i (ok_on _ x) (oks_on l)
theorem any_none : ∀ l : List (Option Nat), inB (l.map onD) .none = decide (none ∈ l)
  | [] => rfl
  | none :: l => (decide_eq_true (List.mem_cons_self)).symm
  | some x :: l => (any_none l).trans (by simp)
theorem ints_nat : ∀ is : List Nat, intsD (is.map (onD ∘ some)) = some (is.map Int.ofNat)
  | [] => rfl
  | i :: r => congrArg (Option.map (Int.ofNat i :: ·)) (ints_nat r)
theorem sum_nat : ∀ ns : List Nat, (ns.map Int.ofNat).sum = Int.ofNat ns.sum
  | [] => rfl
  | n :: ns => by rw [List.map_cons, List.sum_cons, List.sum_cons, sum_nat ns]; rfl
theorem l_beg (O : ((GG prog w h₀ mg mb tabs tq)).Ok) : FK (GG prog w h₀ mg mb tabs tq) 2 458 cBeg :=
  FV_ct (LX O []) (defS 1 [] 0 (wSeq (wIf (tTrue (t2 (tCut (tVar 0) (tD .none) (tD (.int 4))) (tBi (l1 (tList (l1 (tD (.int 40)) (l1 (tD (.int 181)) (l1 (tD (.int 47)) (l1 (tD (.int 253)) l0))))) l0) tBytes) oEq)) (wSeq (wRet (tD (.bool true))) wSkip) wSkip) (wSeq (wRet (vAnd (t2 (tBi (l1 (tVar 0) l0) tLen) (tD (.int 3)) oGt) (vAnd (t2 (t2 (t2 (tVar 0) (tD (.int 0)) tItem) (tD (.int 16)) oDiv) (tD (.int 5)) oEq) (t2 (tCut (tVar 0) (tD (.int 1)) (tD (.int 4))) (tBi (l1 (tList (l1 (tD (.int 42)) (l1 (tD (.int 77)) (l1 (tD (.int 24)) l0)))) l0) tBytes) oEq)))) wSkip))) [] [] rfl (.simple rfl) (fun _ _ _ _ _ => .nil) fun x Q Ex h => by
    walk_at "gd"
    · exact ble_of (Nat.le_trans x.2 (by decide))
    unfold begins at h
    walk_at "wh"
    refine br_of (fun e => ?_) (fun e => ?_)
    · walk_at "wh"
      rw [show decide (x.1.take 4 = [40, 181, 47, 253]) = true from e] at h
      exact h
    rw [show decide (x.1.take 4 = [40, 181, 47, 253]) = false from e, Bool.false_or] at h
    walk_at "gd"
    · exact ble_of (Nat.le_trans x.2 (by decide))
    walk_at "wh"
    refine br_of (fun e => ?_) (fun e => ?_)
    · have hl := lt_t e
      rw [decide_eq_true hl, Bool.true_and] at h
      walk_at "wh"
      refine ⟨Nat.lt_of_le_of_lt (Nat.zero_le _) hl, Nat.le_trans x.2 (by decide), ?_⟩
      walk_at "wh"
      refine br_of (fun e => ?_) (fun e => ?_)
      · rw [show decide ((x.1.getD 0 0).toNat / 16 = 5) = true from e, Bool.true_and] at h
        walk_at "gd"
        · exact ble_of (Nat.le_trans x.2 (by decide))
        walk_at "wh"
        exact h
      · rw [show decide ((x.1.getD 0 0).toNat / 16 = 5) = false from e, Bool.false_and] at h
        walk_at "wh"
        exact at_ (P := fun b => Q (.bool b) []) e h
    · rw [decide_eq_false (Nat.not_lt.mpr (lt_f e)), Bool.false_and, Bool.false_and] at h
      walk_at "wh"
      exact at_ (P := fun b => Q (.bool b) []) e h
theorem l_oth (O : ((GG prog w h₀ mg mb tabs tq)).Ok) : FK (GG prog w h₀ mg mb tabs tq) 2 465 cOth :=
  FV_ct (LX O []) (defS 1 [] 0 (wSeq (wIf (tTrue (t2 (tBi (l1 (tVar 0) l0) tLen) (tD (.int 4)) oLt)) (wSeq (wRet (tD (.str "short"))) wSkip) wSkip) (wSeq (wRet (tIf (tAnd (tTrue (t2 (tCut (tVar 0) (tD (.int 1)) (tD (.int 4))) (tBi (l1 (tList (l1 (tD (.int 181)) (l1 (tD (.int 47)) (l1 (tD (.int 253)) l0)))) l0) tBytes) oEq)) (tAnd (tTrue (t2 (t2 (tVar 0) (tD (.int 0)) tItem) (tTup (l1 (tD (.int 30)) (l1 (tD (.int 34)) (l1 (tD (.int 35)) (l1 (tD (.int 36)) (l1 (tD (.int 37)) (l1 (tD (.int 38)) (l1 (tD (.int 39)) l0)))))))) tIn)) (tB true))) (tD (.str "older")) (tD (.str "header")))) wSkip))) [] [] rfl (.simple rfl) (fun _ _ _ _ _ => .nil) fun x Q Ex h => by
    walk_at "gd"
    · exact ble_of (Nat.le_trans x.2 (by decide))
    unfold otherE at h
    walk_at "wh"
    refine br_of (fun e => ?_) (fun e => ?_)
    · walk_at "wh"
      rw [if_pos (lt_t e)] at h
      exact h
    rw [if_neg (Nat.not_lt.mpr (lt_f e))] at h
    have hl := lt_f e
    walk_at "gd"
    · exact ble_of (Nat.le_trans x.2 (by decide))
    walk_at "wh"
    refine br_of (fun e => ?_) (fun e => ?_)
    · walk_at "wh"
      refine ⟨Nat.lt_of_lt_of_le (by decide) hl, Nat.le_trans x.2 (by decide), ?_⟩
      walk_at "wh"
      have hi := in_old _ (x.1.getD 0 0).toNat_lt
      refine br_of (fun e1 => ?_) (fun e1 => ?_)
      · walk_at "wh"
        rw [if_pos ⟨of_decide_eq_true e, of_decide_eq_true (hi.symm.trans e1)⟩] at h
        exact h
      · walk_at "wh"
        rw [if_neg fun q => of_decide_eq_false (hi.symm.trans e1) q.2] at h
        exact h
    · walk_at "wh"
      rw [if_neg fun q => of_decide_eq_false e q.1] at h
      exact h
theorem l_told (O : ((GG prog w h₀ mg mb tabs tq)).Ok) (h_FrameHeader_told : FK (GG prog w h₀ mg mb tabs tq) 2 243 cTold) : FK (GG prog w h₀ mg mb tabs tq) 3 434 cToldL :=
  FV_ct (LX O [⟨243, .fv 2 _ h_FrameHeader_told⟩]) (defS 1 [] 0 (wSeq (wRet (tTup (l1 (tAttr .fspan 0 (tVar 0)) (l1 (tAttr .fspan 1 (tVar 0)) (l1 (tIf (tTrue (t2 (tAttr .fspan 2 (tVar 0)) (tD .none) oIs)) (tD .none) (tMeth .fheader (tAttr .fspan 2 (tVar 0)) l0 cTold)) (l1 (tAttr .fspan 3 (tVar 0)) l0)))))) wSkip)) [] [] rfl (.simple rfl) (fun _ _ _ _ _ => .nil) fun x Q Ex h => by
    obtain ⟨b, e, t, bl⟩ := x
    cases t with
    | none =>
      walk_at "wh"
      exact need_of (frz_cl _ (clD_spT ⟨b, e, none, bl⟩)) h
    | some hd =>
      walk_at "gd"
      · exact and_i (clD_hdI (some hd)) rfl
      walk_at "wh"
      refine .mk hd ?_
      walk_at "wh"
      exact need_of (frz_cl _ (clD_spT ⟨b, e, some hd, bl⟩)) h
theorem l_led (O : ((GG prog w h₀ mg mb tabs tq)).Ok) : FK (GG prog w h₀ mg mb tabs tq) 2 451 cLed :=
  FV_ct (LX O []) (defS 2 [] 0 (wSeq (wRet (tComp ([none, none, none, none, none, some 1]) (iList (tVar 0)) (gT [1, 2, 3, 4]) (tB true) (tTup (l1 (t2 (tVar 1) (tVar 5) tPlus) (l1 (t2 (tVar 2) (tVar 5) tPlus) (l1 (tVar 3) (l1 (tVar 4) l0))))))) wSkip)) [] [] rfl (.simple rfl) (fun _ _ _ _ _ => .nil) fun x Q Ex h => by
    walk_at "gd"
    · rw [List.length_map]; exact ble_of x.2
    refine comp_map (σ := fun i => { s : List D × Option D × Option D × Option D × Option D // s.1 = (x.1.1.take i).map fun s => (s.sh x.1.2).T }) (fun i s => (s.1.1, [none, s.1.2.1, s.1.2.2.1, s.1.2.2.2.1, s.1.2.2.2.2, some (nD x.1.2)], [])) (fun i s a Z e hZ => ?_) (fun s => ?_) ⟨([], none, none, none, none), rfl⟩
    · walk_at "wh"
      exact hZ ⟨(_, _, _, _, _), acc_snoc s.2 e⟩
    · walk_at "wh"
      refine at_ (P := fun l => retQ 0 Q (.list l) []) (y := (x.1.1.map (·.sh x.1.2)).map Sp.T) (s.2.trans ((congrArg (List.map _) List.take_length).trans (sh_map _ _))) ?_
      exact need_of (frz_cl (spsD (x.1.1.map (·.sh x.1.2))) (clDs_map clD_spT _)) h
theorem l_row (O : ((GG prog w h₀ mg mb tabs tq)).Ok) : FK (GG prog w h₀ mg mb tabs tq) 2 420 cRow :=
  FV_ct (LX O []) (defS 1 [] 5 (wSeq (wTg (gTS [2, 1]) (tTup (l1 (tD (.bytes [])) (l1 (tNewL l0) l0)))) (wSeq (wFor (iList (tVar 0)) (gT [3, 4, 5]) (wSeq (wExp (tApp (tVar 2) (tTup (l1 (tBi (l1 (tVar 1) l0) tLen) (l1 (t2 (tBi (l1 (tVar 1) l0) tLen) (tBi (l1 (tVar 3) l0) tLen) tPlus) (l1 (tVar 4) (l1 (tVar 5) l0))))))) (wSeq (wSet 1 (t2 (tVar 1) (tVar 3) tPlus)) wSkip))) (wSeq (wRet (tTup (l1 (tVar 1) (l1 (tVar 2) l0)))) wSkip)))) [] [] rfl (.simple rfl) (fun _ _ _ _ _ => .nil) fun x Q Ex h => by
    walk_at "wh"
    refine for_map (σ := fun i => { s : List UInt8 × List D × Option D × Option D × Option D // s.1 = cat (x.1.take i) ∧ s.2.1 = (rowS 0 (x.1.take i)).map Sp.T }) (fun i s => ([some (frsD x.1), some (.bytes s.1.1), some (.hl 0), s.1.2.2.1, s.1.2.2.2.1, s.1.2.2.2.2], [.list s.1.2.1])) (fun i s a C e hC => ?_) (fun s => ?_) ⟨([], [], none, none, none), rfl, rfl⟩
    · have hk := row_ok x.2.1 x.2.2 e s.2.1 s.2.2
      walk_at "gd"
      · exact ble_of hk.1
      walk_at "gd"
      · exact ble_of hk.1
      walk_at "gd"
      · exact ble_of hk.2.1
      walk_at "gd"
      · exact clD_spT ⟨_, _, a.told, a.blocks⟩
      refine ⟨hk.2.2.1, ?_⟩
      walk_at "gd"
      · exact ble_of hk.2.2.2.1
      walk_at "wh"
      exact hC ⟨(_, _, _, _, _), hk.2.2.2.2⟩
    · walk_at "wh"
      have h1 := s.2.1.trans (congrArg cat List.take_length)
      have h2 := s.2.2.trans (congrArg (fun l => (rowS 0 l).map Sp.T) List.take_length)
      exact at_ (P := fun z : List UInt8 × List D => Q (.tup [.bytes z.1, .list z.2]) []) (x := (s.1.1, s.1.2.1)) (y := (cat x.1, (rowS 0 x.1).map Sp.T)) (Prod.ext h1 h2) h
theorem l_amt (O : ((GG prog w h₀ mg mb tabs tq)).Ok) : FK (GG prog w h₀ mg mb tabs tq) 2 508 cAmt :=
  FV_ct (LX O []) (defS 1 [] 1 (wSeq (wSet 1 (tComp ([none, none]) (iList (tVar 0)) (gN 1) (tTrue (t2 (t2 (tVar 1) (tD (.int 2)) tItem) (tD .none) oIsn)) (t2 (t2 (tVar 1) (tD (.int 2)) tItem) (tD (.int 1)) tItem))) (wSeq (wRet (tIf (tTrue (t2 (tD .none) (tVar 1) tIn)) (tD .none) (tBi (l1 (tVar 1) l0) tSum))) wSkip))) [] [] rfl (.simple rfl) (fun _ _ _ _ _ => .nil) fun x Q Ex h => by
    walk_at "gd"
    · rw [List.length_map]; exact ble_of (Nat.le_trans x.2 (by decide))
    refine comp_map (σ := fun i => { s : List D × Option D // s.1 = (szs ((x.1.take i).map (·.told))).map onD }) (fun i s => (s.1.1, [none, s.1.2], [])) (fun i s a Z e hZ => ?_) (fun s => ?_) ⟨([], none), rfl⟩
    · have hz := szs_snoc s.2 e
      obtain ⟨b, ed, t, bl⟩ := a
      cases t with
      | none =>
        walk_at "wh"
        exact hZ ⟨(s.1.1, some _), (List.append_nil _).symm.trans hz⟩
      | some hd =>
        walk_at "wh"
        exact hZ ⟨(_, some _), hz⟩
    · have hs := s.2.trans (congrArg (fun l : List Sp => (szs (l.map (·.told))).map onD) List.take_length)
      walk_at "gd"
      · rw [hs]; exact oks_on _
      walk_at "wh"
      rcases amt_szs (x.1.map (·.told)) with ⟨h1, h2⟩ | ⟨ns, h1, h2⟩
      · refine br_t ?_ ?_
        · rw [hs, any_none]; exact decide_eq_true h2
        walk_at "wh"
        exact at_ (P := fun z => Q (onD z) []) h1.symm h
      · refine br_f ?_ ?_
        · rw [hs, any_none, h1]; exact decide_eq_false (by simp)
        walk_at "wh"
        refine need_of (a := ns.map Int.ofNat) (by rw [hs, h1, List.map_map]; exact ints_nat ns) ?_
        walk_at "wh"
        rw [h2] at h
        exact at_ (P := fun z => Q (.int z) []) (sum_nat ns) h
inductive CtN {α : Type} (enc : α → List D × List MO) (k : α → (List D → List MO → Prop) → (Exn → List MO → Prop) → Prop) (Q : List D → List MO → Prop) (Ex : Exn → List MO → Prop) : List D → List MO → Prop
  | mk (x : α) (h : k x Q Ex) : CtN enc k Q Ex (enc x).1 (enc x).2
theorem FN_ct {G : Gr} (X : Lx G) {b : Nat} {a : Addr} {α : Type} {enc : α → List D × List MO} {k : α → (List D → List MO → Prop) → (Exn → List MO → Prop) → Prop} (P : PN) (e : valO (iDefN X b a) = some P) (hb : Binds G.K a []) (v : ∀ x Q Ex, k x Q Ex → P (enc x).1 (enc x).2 Q Ex) :
    FN G (b + 1) a (fun ds μ Q Ex => CtN enc k Q Ex ds μ) := fun A θ X' s vals ds μ Q Ex hA I W M R p =>
  (valO_eq e) hb A θ X' s vals ds μ Q Ex hA I W M R (by cases p with | mk x h => exact v x _ _ h)
abbrev IJar := { cs : List Int // cs.length ≤ 1000 }
abbrev cJar : PN := fun ds μ Q Ex => CtN (fun cs : IJar => ([.list (cs.1.map D.int)], [])) (fun cs Q _ => ∀ j : J, Q [nD j.1, nD j.2] []) Q Ex ds μ
abbrev words : List (Exn × Str) := [(.block, "block"), (.header, "header"), (.short, "short"), (.trailing, "trailing"), (.older, "older")]
theorem wd_word : ∀ {e : Exn}, e ≠ .badarg → Wd words e (word e)
  | .block, _ => .here
  | .header, _ => .there (fun q => nomatch q) .here
  | .short, _ => .there (fun q => nomatch q) (.there (fun q => nomatch q) .here)
  | .trailing, _ => .there (fun q => nomatch q) (.there (fun q => nomatch q) (.there (fun q => nomatch q) .here))
  | .older, _ => .there (fun q => nomatch q) (.there (fun q => nomatch q) (.there (fun q => nomatch q) (.there (fun q => nomatch q) .here)))
  | .badarg, h => absurd rfl h
theorem Stp.nobad {N : Nat} {first : Bool} {b : Nat} {r : List UInt8} {fs : List Sp} {w : Option Exn} (h : Stp N first b r fs w) : ∀ {e}, w = some e → e ≠ .badarg := by
  induction h with
  | nil => intro e q; exact nomatch q
  | err _ q => intro e z y; cases z; exact meas_nobad (y ▸ q)
  | ok _ _ ih => exact ih
def wordO : Option Exn → Str
  | none => "end"
  | some e => word e
def outD : List Sp → Option Exn → D
  | fs, none => spsD fs
  | _, some e => .str (word e)
theorem clD_spI (s : Sp) : clD s.I = true := clD_sp _ _ _
abbrev cSpL (N : Nat) : PF := sp (eSp (N := N)) fun x Q _ => Q (outD x.fs x.w) []
abbrev cStep (N : Nat) : PF := sp (eSp (N := N)) fun x Q _ => Q (.tup [spsD x.fs, .str (wordO x.w)]) []
abbrev IPl := { x : J × List Sp × Nat // (∀ s ∈ x.2.1, 1 ≤ s.e) ∧ x.2.1.length ≤ 1000000 ∧ x.2.2 ≤ 1000000 ∧ ∀ s ∈ x.2.1, s.e ≤ x.2.2 }
abbrev cPlace : PF := sp (fun x : IPl => ([.hl 0, spsD x.1.2.1, nD x.1.2.2], [jm x.1.1])) fun x Q _ => ∀ c j, c ≤ x.1.2.2 → Q (nD c) [jm j]
theorem Stp.count {N : Nat} {first : Bool} {b : Nat} {r : List UInt8} {fs : List Sp} {w : Option Exn} (h : Stp N first b r fs w) : fs.length ≤ r.length := by
  induction h with
  | nil => exact Nat.le_refl _
  | err _ _ => exact Nat.zero_le _
  | ok q _ ih =>
    have := (meas_ok q).2
    rw [List.length_drop] at ih
    rw [List.length_cons]; lia
theorem SS.last {N : Nat} {x : ISp N} {f : Sp → D} (s : SS x f) (h : s.f2 = []) : s.ad = x.fs.map f := by rw [s.ha, ← s.hf, h, List.append_nil]
theorem ok_td (n : Nat) : ∀ o : Option Hd, okD (n + 1) (tdD o) = true
  | none => rfl
  | some ⟨w, s, _, _, _⟩ => by cases w <;> cases s <;> rfl
theorem oks_bl (n : Nat) : ∀ b : Bl, okDs (n + 1) (b.map blD) = true
  | [] => rfl
  | _ :: b => oks_bl n b
theorem ok_spT (n : Nat) (s : Sp) : okD (n + 3) s.T = true := show (true && (true && (okD (n + 2) (tdD s.told) && (okDs (n + 1) (s.blocks.map blD) && true)))) = true from and_i rfl (and_i rfl (and_i (ok_td _ _) (and_i (oks_bl _ _) rfl)))
theorem oks_sps : ∀ fs : List Sp, okDs 31 (fs.map Sp.T) = true
  | [] => rfl
  | s :: fs => and_i (ok_spT 28 s) (oks_sps fs)
theorem eqv_nil {α : Type} {f : α → D} {l : List α} (e : negB false (PyData.eqv (pyD (.list (l.map f))) (pyD (.list []))) = false) : l ≠ [] := by
  rintro rfl
  exact nomatch e
theorem modI_nn (a : Int) {n : Nat} (h : 0 < n) : modI a (.ofNat n) = .ofNat (modI a (.ofNat n)).toNat := by
  cases a with
  | ofNat m => rfl
  | negSucc m => exact (Int.toNat_of_nonneg (Int.fmod_nonneg_of_pos (.negSucc m) (Int.ofNat_lt.mpr h))).symm
theorem l_jar (O : ((GG prog w h₀ mg mb tabs tq)).Ok) : FN (GG prog w h₀ mg mb tabs tq) 2 370 cJar :=
  FN_ct (LX O []) (defN 1 3 (wSeq (wTg (gT [1, 2]) (tTup (l1 (tD (.int 0)) (l1 (tD (.int 154)) l0)))) (wSeq (wFor (iList (tCut (tVar 0) (tD .none) (tD (.int 40)))) (gN 3) (wSeq (wIf (tTrue (t2 (tVar 3) (t2 (tD (.int 10)) (tD (.int 18)) oPow) oGe)) (wSeq (wSet 1 (t2 (t2 (t2 (tVar 1) (tVar 3) tPlus) (t2 (tD (.int 10)) (tD (.int 18)) oPow) oSub) (t2 (tD (.int 10)) (tD (.int 150)) oPow) oMod)) wSkip) (wSeq (wSet 2 (t2 (tD (.int 1)) (t2 (t2 (t2 (tVar 2) (tD (.int 1009)) oMul) (tVar 3) tPlus) (tD (.int 2147483629)) oMod) tPlus)) wSkip)) wSkip)) (wSeq (wRet (tNewL (l1 (tVar 1) (l1 (tVar 2) l0)))) wSkip)))) rfl (.simple rfl) fun x Q Ex h => by
    walk_at "gd"
    · rw [List.length_map]; exact ble_of (Nat.le_trans x.2 (by decide))
    walk_at "wh"
    refine for_ix (σ := fun _ => J × Option D) (fun _ s => ([some (.list (x.1.map D.int)), some (nD s.1.1), some (nD s.1.2), s.2], [])) (fun i s d C e hC => ?_) (fun s => ?_) ((0, 154), none)
    · obtain ⟨c, _, rfl⟩ := List.mem_map.mp (List.mem_of_mem_drop (List.mem_of_mem_take (List.mem_of_getElem? e)))
      walk_at "wh"
      refine br_of (fun e => ?_) (fun e => ?_)
      · walk_at "wh"
        exact at_ (P := fun z => C [_, some (.int z), _, _] _) (modI_nn _ (by decide : 0 < 10 ^ 150)) (hC ((_, _), _))
      · walk_at "wh"
        exact at_ (P := fun z => C [_, _, some (.int (addI 1 z)), _] _) (modI_nn _ (by decide : 0 < 2147483629)) (hC ((s.1.1, 1 + _), _))
    · walk_at "wh"
      exact h s.1
theorem w_word (O : ((GG prog w h₀ mg mb tabs tq)).Ok) (b : Nat) : FW (GG prog w h₀ mg mb tabs tq) b 427 words := FW_def O excCls (fa := 427) rfl rfl (Binds.simple (a := 427) rfl) rfl (by decide) rfl rfl rfl (.cons rfl rfl rfl (.cons rfl rfl rfl (.cons rfl rfl rfl (.cons rfl rfl rfl (.cons rfl rfl rfl .nil)))))
theorem l_spans {N : Nat} (O : ((GG prog w h₀ mg mb tabs tq)).Ok) (h_spans : FK (GG prog w h₀ mg mb tabs tq) 7 356 (cSpans N)) (h__law_told : FK (GG prog w h₀ mg mb tabs tq) 3 434 cToldL) (hw : ∀ b, FW (GG prog w h₀ mg mb tabs tq) b 427 words) {P : Addr} (hP : (438, P) ∈ tabs) (hq : tq P = ("_law_spans.<locals>." : Str) ++ ("<lambda>" : Str)) : FK (GG prog w h₀ mg mb tabs tq) 10 439 ((cSpL N)) :=
  FV_ct (LX O [⟨356, .fv 7 _ h_spans⟩, ⟨434, .fv 3 _ h__law_told⟩, ⟨427, .fw _ hw rfl⟩, ⟨438, .tab P "_law_spans.<locals>." hP hq⟩]) (defS 1 [] 1 (wSeq (wSet 1 (tWord ([some 0]) (tCall (l1 (tVar 0) l0) ((cSpans N))) words)) (wSeq (wRet (tIf (tTrue (tBi (l1 (tVar 1) (l1 (tD (.ty .str)) l0)) tIsi)) (tVar 1) (tComp ([none, none]) (iList (tVar 1)) (gN 1) (tB true) (tCall (l1 (tVar 1) l0) cToldL)))) wSkip))) [] [] rfl (.simple rfl) (fun _ _ _ _ _ => .nil) fun x Q Ex h => by
    walk_at "wh"
    refine .mk x ⟨fun hw => need_of (frz_cl _ (clDs_map clD_spI _)) ?_, fun e hw => ⟨_, wd_word (x.h.nobad hw), ?_⟩⟩
    · walk_at "gd"
      · rw [List.length_map]; exact ble_of (Nat.le_trans x.h.count x.hl)
      refine comp_map (σ := fun i => { s : List D × Option D // s.1 = (x.fs.take i).map Sp.T }) (fun i s => (s.1.1, [none, s.1.2], [])) (fun i s a Z e hZ => ?_) (fun s => ?_) ⟨([], none), rfl⟩
      · walk_at "gd"
        · exact and_i (clD_spI a) rfl
        walk_at "wh"
        refine .mk a ?_
        walk_at "wh"
        exact hZ ⟨(_, some _), acc_snoc s.2 e⟩
      · have hs := s.2.trans (congrArg (List.map Sp.T) List.take_length)
        walk_at "wh"
        refine at_ (P := fun l => retQ 0 Q (.list l) []) hs (need_of (frz_cl (spsD x.fs) (clDs_map clD_spT _)) ?_)
        exact at_ (P := fun w => Q (outD x.fs w) []) hw.symm h
    · walk_at "wh"
      exact at_ (P := fun w => Q (outD x.fs w) []) hw.symm h
theorem l_steps {N : Nat} (O : ((GG prog w h₀ mg mb tabs tq)).Ok) (h_Octets___init__ : FK (GG prog w h₀ mg mb tabs tq) 3 150 cInitO1) (h_Octets_left : FK (GG prog w h₀ mg mb tabs tq) 1 157 cLeft) (h_measure : FK (GG prog w h₀ mg mb tabs tq) 6 349 (cMeas N)) (h__law_told : FK (GG prog w h₀ mg mb tabs tq) 3 434 cToldL) (hw : ∀ b, FW (GG prog w h₀ mg mb tabs tq) b 427 words) {P : Addr} (hP : (445, P) ∈ tabs) (hq : tq P = ("_law_steps.<locals>." : Str) ++ ("<lambda>" : Str)) : FK (GG prog w h₀ mg mb tabs tq) 10 446 ((cStep N)) :=
  FV_ct (LX O [⟨209, .nh .octets _ 3 _ rfl newOk_octets h_Octets___init__⟩, ⟨157, .fv 1 _ h_Octets_left⟩, ⟨349, .fv 6 _ h_measure⟩, ⟨434, .fv 3 _ h__law_told⟩, ⟨427, .fw _ hw rfl⟩, ⟨445, .tab P "_law_steps.<locals>." hP hq⟩]) (defS 1 [] 3 (wSeq (wTg (gT [2, 3]) (tTup (l1 (tNewH .octets (l1 (tVar 0) l0) cInitO1) (l1 (tNewL l0) l0)))) (wSeq (wWhile (tTrue (t2 (tMeth .octets (tVar 2) l0 cLeft) (tD (.int 0)) oGt)) (wSeq (wSet 1 (tWord ([some 2, some 3]) (tCall (l1 (tVar 0) (l1 (tBi (l1 (tVar 1) l0) tLen) l0)) ((cMeas N))) words)) (wSeq (wIf (tTrue (tBi (l1 (tVar 1) (l1 (tD (.ty .str)) l0)) tIsi)) (wSeq (wRet (tTup (l1 (tVar 3) (l1 (tVar 1) l0)))) wSkip) wSkip) (wSeq (wExp (tApp (tVar 3) (tCall (l1 (tVar 1) l0) cToldL))) wSkip)))) (wSeq (wRet (tTup (l1 (tVar 3) (l1 (tD (.str "end")) l0)))) wSkip)))) [] [] rfl (.simple rfl) (fun _ _ _ _ _ => .nil) fun x Q Ex h => by
    walk_at "wh"
    refine .mk x.L ⟨rfl, ?_⟩
    walk_at "wh"
    refine while_st (σ := SS x Sp.T × Option D) (fun s => x.l.length - s.1.c.i) (fun s => ([some (.bytes x.l), s.2, some (.hi 0 .octets), some (.hl 1)], [octC s.1.c, .list s.1.ad])) (fun s C hC => ?_) (.st x Sp.T, none)
    walk_at "wh"
    refine .mk (cuC s.1.c) ?_
    walk_at "wh"
    refine br_of (fun e => ?_) (fun e => ?_)
    · walk_at "gd"
      · exact ble_of (Nat.le_trans s.1.len (by decide))
      walk_at "wh"
      refine .mk (⟨cuN s.1.c s.1.ad.length, x.hl⟩ : IMeas) (s.1.hs.rn (L := x.L) (lt_t e) (fun e h2 hw q => ⟨_, wd_word (x.h.nobad hw), ?_⟩) fun v c fs h1 h2 h3 => need_of (frz_cl (spI _ _ v) (clD_sp _ _ _)) ?_)
      · walk_at "wh"
        refine at_ (P := fun l => Q (.tup [.list l, _]) []) (s.1.last h2) ?_
        exact at_ (P := fun w => Q (.tup [spsD x.fs, .str (wordO w)]) []) hw.symm h
      · walk_at "gd"
        · exact and_i (clD_sp _ _ _) rfl
        walk_at "wh"
        refine .mk (⟨s.1.c.i, c.i, v.1, v.2⟩ : Sp) ?_
        walk_at "gd"
        · exact clD_spT _
        exact ⟨s.1.len, hC (s.1.nx c ⟨_, _, _, _⟩ fs h1 h2 h3, _) (Nat.sub_lt_sub_left (Nat.lt_of_sub_pos (lt_t e)) h1)⟩
    · have hf := s.1.fin (lt_f e)
      walk_at "wh"
      refine at_ (P := fun l => Q (.tup [.list l, _]) []) hf.2 ?_
      exact at_ (P := fun w => Q (.tup [spsD x.fs, .str (wordO w)]) []) hf.1.symm h
theorem l_place (O : ((GG prog w h₀ mg mb tabs tq)).Ok) (h__law_take : FK (GG prog w h₀ mg mb tabs tq) 2 377 cTk) : FK (GG prog w h₀ mg mb tabs tq) 4 477 cPlace :=
  FV_ct (LX O [⟨377, .fv 2 _ h__law_take⟩]) (defS 3 [] 2 (wSeq (wSet 3 (tCall (l1 (tVar 0) (l1 (tD (.int 3)) l0)) cTk)) (wSeq (wJ (wIf (tOr (tTrue (t2 (tVar 3) (tD (.int 0)) oEq)) (tOr (tTrue (t2 (tVar 1) (tList l0) oEq)) (tB false))) (wSeq (wRet (tCall (l1 (tVar 0) (l1 (t2 (tVar 2) (tD (.int 1)) tPlus) l0)) cTk)) wSkip) wSkip)) (wSeq (wSet 4 (t2 (t2 (tVar 1) (tCall (l1 (tVar 0) (l1 (tBi (l1 (tVar 1) l0) tLen) l0)) cTk) tItem) (tD (.int 1)) tItem)) (wSeq (wRet (tIf (tTrue (t2 (tVar 3) (tD (.int 1)) oEq)) (tBi (l1 (tVar 2) (l1 (t2 (tVar 4) (tCall (l1 (tVar 0) (l1 (tD (.int 5)) l0)) cTk) tPlus) l0)) tMin) (t2 (tVar 4) (tD (.int 1)) oSub))) wSkip))))) [] [] (by with_unfolding_all rfl) (.simple rfl) (fun _ _ _ _ _ => .nil) fun x Q Ex h => by
    walk_at "wh"
    refine .mk (⟨(x.1.1, 3), rfl⟩ : ITk) fun kd j hk => ?_
    walk_at "wh"
    refine join (σ := { s : J // x.1.2.1 ≠ [] }) (fun s => ([some (.hl 0), some (spsD x.1.2.1), some (nD x.1.2.2), some (nD kd), none], [jm s.1])) (fun C hC => ?_) (fun s => ?_)
    · walk_at "wh"
      have ht : tkB (x.1.2.2 + 1) = true := and_i (ble_of (Nat.succ_le_succ (Nat.zero_le _))) (ble_of (Nat.le_trans (Nat.succ_le_succ x.2.2.2.1) (by decide)))
      refine br_of (fun e => ?_) (fun e => ?_)
      · walk_at "wh"
        exact .mk (⟨(j, x.1.2.2 + 1), ht⟩ : ITk) fun c j hc => h c j (Nat.le_of_lt_succ hc)
      · walk_at "gd"
        · exact oks_sps x.1.2.1
        walk_at "wh"
        refine br_of (fun e => ?_) (fun e => ?_)
        · walk_at "wh"
          exact .mk (⟨(j, x.1.2.2 + 1), ht⟩ : ITk) fun c j hc => h c j (Nat.le_of_lt_succ hc)
        · walk_at "wh"
          exact hC ⟨j, eqv_nil e⟩
    walk_at "gd"
    · rw [List.length_map]; exact ble_of (Nat.le_trans x.2.2.1 (by decide))
    walk_at "wh"
    refine .mk (⟨(s.1, (x.1.2.1.map Sp.T).length), by rw [List.length_map]; exact and_i (ble_of (List.length_pos_iff.mpr s.2)) (ble_of (Nat.le_trans x.2.2.1 (by decide)))⟩ : ITk) fun i j hi => ?_
    have hi : i < x.1.2.1.length := Nat.lt_of_lt_of_eq hi (List.length_map _)
    walk_at "gd"
    · rw [List.length_map]; exact ble_of (Nat.le_trans x.2.2.1 (by decide))
    walk_at "wh"
    have hm := List.getElem_mem hi
    refine need_of (a := (x.1.2.1[i]).T) (by rw [List.getElem?_map, List.getElem?_eq_getElem hi]; rfl) ?_
    walk_at "wh"
    refine br_of (fun e => ?_) (fun e => ?_)
    · walk_at "wh"
      refine .mk (⟨(j, 5), rfl⟩ : ITk) fun c j hc => ?_
      walk_at "wh"
      exact h _ j (Nat.min_le_left _ _)
    · walk_at "wh"
      exact at_left (Q := fun z => Q (.int z) [jm j]) (x.2.1 _ hm) (h _ j (Nat.le_trans (Nat.sub_le _ _) (x.2.2.2.2 _ hm)))
theorem eqv_same {d : D} (h : okD 32 d = true) (neg : Bool) : negB neg (PyData.eqv (pyD d) (pyD d)) = !neg := by
  rw [SeqAt.eqv_refl _ (ok_lay d 32 h).1]; cases neg <;> rfl
theorem strOk_word : ∀ e : Exn, PyData.strOk (word e) = true := by intro e; cases e <;> decide +kernel
theorem strOk_wordO : ∀ e : Option Exn, PyData.strOk (wordO e) = true
  | none => by decide +kernel
  | some e => strOk_word e
theorem eqs {a b : Str} (h : a = b) (k : PyData.strOk a = true) : negB false (PyData.eqv (pyD (.str a)) (pyD (.str b))) = true := by subst h; exact eqv_same (d := .str a) k false
theorem eqs_t {a b : Str} (h : negB false (PyData.eqv (pyD (.str a)) (pyD (.str b))) = true) : a = b := eq_of_beq h
theorem wordO_inj : ∀ a b : Option Exn, wordO a = wordO b → a = b := by
  intro a b h
  have k : ∀ n m : Str, (n == m) = false → n ≠ m := fun n m h q => by rw [q, beq_self_eq_true] at h; exact nomatch h
  rcases a with _ | a <;> rcases b with _ | b <;> (try cases a) <;> (try cases b) <;> first | rfl | exact absurd h (k _ _ (by decide +kernel))
theorem lastE_last : ∀ (fs : List Sp) (b : Nat), fs ≠ [] → ∃ s, fs[fs.length - 1]? = some s ∧ lastE b fs = s.e
  | [], _, h => absurd rfl h
  | [s], b, _ => ⟨s, rfl, rfl⟩
  | s :: t :: r, b, _ => lastE_last (t :: r) s.e (List.cons_ne_nil _ _)
theorem Stp.cut0 {N : Nat} {l : List UInt8} {fs : List Sp} {w : Option Exn} {c : Nat} (h : Stp N true 0 l fs w) (hc : c ≤ l.length) {wh : List Sp} (hw : wh = fs.filter fun s => decide (s.e ≤ c)) : ∃ why rest, rest = (l.take c).drop (lastE 0 wh) ∧ Stp N true 0 (l.take c) wh why ∧ lastE 0 wh ≤ c ∧
    ((rest = [] ∧ why = none) ∨ (rest ≠ [] ∧ (begins rest = false → why = some (if wh.isEmpty = true then otherE rest else .trailing)) ∧ (begins rest = true → why = some .short ∨ (wh = fs ∧ why = w)))) := by
  obtain ⟨why, h1, h2⟩ := h.cut c hc
  rw [Nat.zero_add, Nat.sub_zero] at h2
  rw [Nat.zero_add] at h1
  rw [← hw] at h1 h2
  refine ⟨why, _, rfl, h1, ?_, h2⟩
  have := h1.lastE_ge.2
  rw [List.length_take] at this
  lia
theorem neq_same {μ : List MO} {a : List D} {Q : D → Prop} (h : okD 32 (.list a) = true) (hq : Q (.bool false)) : tJ tNeq μ (.list a) (.list a) Q := tJ_of (by
  cases a with
  | nil => exact hq
  | cons x a =>
    refine guard_of h (guard_of h ?_)
    rw [show unH μ (.list (x :: a)) = .list (x :: a) from rfl, eqv_same h]; exact hq)
/-- the end of what was found, 0 where nothing was -/
theorem last_of {C : D → List MO → Prop} {ρ : List (Option D)} {μ : List MO} {wh : List Sp} {i : Nat} {Ex} (hwl : wh.length ≤ 1000000) (hC : ∀ n, n = lastE 0 wh → C (nD n) μ) (hi : ρ[i]?.join = some (spsD wh) := by rfl) :
    tIf (tTrue (t2 (tVar i) (tList l0) tNeq)) (t2 (t2 (tVar i) (tD (.int (-1))) tItem) (tD (.int 1)) tItem) (tD (.int 0)) ρ μ C Ex := by
  refine need_of hi ?_
  cases wh with
  | nil => exact hC 0 rfl
  | cons s wh =>
    obtain ⟨u, hu1, hu2⟩ := lastE_last (s :: wh) 0 (List.cons_ne_nil _ _)
    refine need_of hi ?_
    show idxL ((s :: wh).map Sp.T) (Int.negSucc 0) _
    refine guard_of ?_ ?_
    · rw [List.length_map]; exact ble_of (Nat.le_trans hwl (by decide))
    show Gd (Nat.ble (0 + 1) ((s :: wh).map Sp.T).length) (Nd ((s :: wh).map Sp.T)[((s :: wh).map Sp.T).length - 1 - 0]? _)
    refine guard_of ?_ (need_of (a := u.T) ?_ (hC _ hu2.symm))
    · exact ble_of (Nat.succ_le_succ (Nat.zero_le _))
    · rw [List.length_map, List.getElem?_map, Nat.sub_zero, hu1]; rfl
abbrev IBR (N : Nat) := { x : ISp N × Nat // x.2 ≤ x.1.l.length }
abbrev cBR (N : Nat) : PF := sp (fun x : IBR N => ([.bytes x.1.1.l, spsD x.1.1.fs, .str (wordO x.1.1.w), nD x.1.2], [])) fun x Q _ => Q (.bool true) []
theorem comp_le {K : List D → List MO → Prop} {fs : List Sp} {c : Nat} {x : Option D} {μ : List MO} (h : K ((fs.filter fun s => decide (s.e ≤ c)).map Sp.T) μ) :
    compT (gN 1) (tTrue (t2 (t2 (tVar 1) (tD (D.int 1)) tItem) (tVar 2) oLe)) (tVar 1) K (fs.map Sp.T) [] [none, x, some (nD c)] μ := by
  refine comp_map (σ := fun i => { s : List D × Option D // s.1 = ((fs.take i).filter fun s => decide (s.e ≤ c)).map Sp.T }) (fun i s => (s.1.1, [none, s.1.2, some (nD c)], μ)) (fun i s a Z e hZ => ?_) (fun s => ?_) ⟨([], x), rfl⟩
  · have hs : ((fs.take (i + 1)).filter fun s => decide (s.e ≤ c)).map Sp.T = s.1.1 ++ ([a].filter fun s => decide (s.e ≤ c)).map Sp.T := by
      rw [List.take_add_one, e, List.filter_append, List.map_append, s.2]; rfl
    refine br_of (fun q => ?_) (fun q => ?_)
    · rw [List.filter_cons_of_pos (p := fun s : Sp => decide (s.e ≤ c)) q] at hs
      exact hZ ⟨(_, some _), hs.symm⟩
    · rw [List.filter_cons_of_neg (p := fun s : Sp => decide (s.e ≤ c)) (by rw [show decide (a.e ≤ c) = false from q]; exact Bool.false_ne_true)] at hs
      exact hZ ⟨(_, some _), (hs.trans (List.append_nil _)).symm⟩
  · have hs := s.2.trans (congrArg (fun l => (List.filter (fun s : Sp => decide (s.e ≤ c)) l).map Sp.T) List.take_length)
    exact at_ (P := fun l => K l μ) hs h
theorem l_br {N : Nat} (O : ((GG prog w h₀ mg mb tabs tq)).Ok) (h__law_steps : FK (GG prog w h₀ mg mb tabs tq) 10 446 (cStep N)) (h__law_begins : FK (GG prog w h₀ mg mb tabs tq) 2 458 cBeg) (h__law_other : FK (GG prog w h₀ mg mb tabs tq) 2 465 cOth) : FK (GG prog w h₀ mg mb tabs tq) 11 470 ((cBR N)) :=
  FV_ct (LX O [⟨446, .fv 10 _ h__law_steps⟩, ⟨458, .fv 2 _ h__law_begins⟩, ⟨465, .fv 2 _ h__law_other⟩]) (defS 4 [] 4 (wSeq (wSet 4 (tComp ([none, none, some 3]) (iList (tVar 1)) (gN 1) (tTrue (t2 (t2 (tVar 1) (tD (.int 1)) tItem) (tVar 2) oLe)) (tVar 1))) (wSeq (wTg (gT [5, 6]) (tCall (l1 (tCut (tVar 0) (tD .none) (tVar 3)) l0) ((cStep N)))) (wSeq (wIf (tTrue (t2 (tVar 5) (tVar 4) (tJ tNeq))) (wSeq (wRet (tD (.bool false))) wSkip) wSkip) (wSeq (wJ (wSet 7 (tCut (tVar 0) (eJ (tIf (tTrue (t2 (tVar 4) (tList l0) tNeq)) (t2 (t2 (tVar 4) (tD (.int (-1))) tItem) (tD (.int 1)) tItem) (tD (.int 0)))) (tVar 3)))) (wSeq (wIf (tTrue (t2 (tVar 7) (tD (.bytes [])) oEq)) (wSeq (wRet (t2 (tVar 6) (tD (.str "end")) oEq)) wSkip) wSkip) (wSeq (wIf (tNot (tTrue (tCall (l1 (tVar 7) l0) cBeg))) (wSeq (wRet (t2 (tVar 6) (eJ (tIf (tTrue (t2 (tVar 4) (tList l0) tNeq)) (tD (.str "trailing")) (tCall (l1 (tVar 7) l0) cOth))) oEq)) wSkip) wSkip) (wSeq (wRet (vOr (t2 (tVar 6) (tD (.str "short")) oEq) (vAnd (t2 (tVar 4) (tVar 1) oEq) (t2 (tVar 6) (tVar 2) oEq)))) wSkip)))))))) [] [] (by with_unfolding_all rfl) (.simple rfl) (fun _ _ _ _ _ => .nil) fun x Q Ex h => by
    obtain ⟨wh, hwh⟩ : ∃ wh, wh = x.1.1.fs.filter fun s => decide (s.e ≤ x.1.2) := ⟨_, rfl⟩
    obtain ⟨why, rest, hrest, hS', hle, hcut⟩ := x.1.1.h.cut0 x.2 hwh
    have hl' : (x.1.1.l.take x.1.2).length ≤ 1000000 := by rw [List.length_take]; exact Nat.le_trans (Nat.min_le_right _ _) x.1.1.hl
    have hwl := Nat.le_trans hS'.count hl'
    walk_at "gd"
    · rw [List.length_map]; exact ble_of (Nat.le_trans x.1.1.h.count x.1.1.hl)
    refine comp_le ?_
    rw [← hwh]
    walk_at "gd"
    · exact ble_of (Nat.le_trans x.1.1.hl (by decide))
    walk_at "wh"
    refine .mk (⟨x.1.1.l.take x.1.2, hl', wh, why, hS'⟩ : ISp N) ?_
    walk_at "wh"
    refine neq_same (oks_sps wh) ?_
    walk_at "wh"
    refine join (σ := Unit) (fun _ => ([some (.bytes x.1.1.l), some (spsD x.1.1.fs), some (.str (wordO x.1.1.w)), some (nD x.1.2), some (spsD wh), some (spsD wh), some (.str (wordO why)), some (.bytes rest)], [])) (fun C hC => ?_) (fun _ => ?_)
    · walk_at "wh"
      refine join_e (σ := { n : Nat // n = lastE 0 wh }) (fun n => (nD n.1, [])) (fun C hC => ?_) (fun n => ?_)
      · exact last_of hwl (fun n h => hC ⟨n, h⟩)
      walk_at "gd"
      · exact ble_of (Nat.le_trans x.1.1.hl (by decide))
      walk_at "wh"
      refine at_ (P := fun r => C [_, _, _, _, _, _, _, some (.bytes r)] []) (y := rest) ?_ (hC ())
      rw [hrest, List.drop_take]
      exact congrArg (fun n => List.take (x.1.2 - n) (List.drop n x.1.1.l)) n.2
    walk_at "wh"
    refine br_of (fun e => ?_) (fun e => ?_)
    · have hr : rest = [] := of_decide_eq_true e
      have hw : why = none := hcut.elim (·.2) fun q => absurd hr q.1
      walk_at "gd"
      · exact strOk_wordO _
      walk_at "gd"
      · exact strOk_wordO none
      walk_at "wh"
      exact at_ (P := fun z => Q (.bool z) []) (eqs (congrArg wordO hw) (strOk_wordO _)) h
    have hr : ¬ rest = [] := of_decide_eq_false e
    have hcut := (hcut.resolve_left fun q => hr q.1).2
    have hrl : rest.length ≤ 1000000 := by rw [hrest, List.length_drop]; exact Nat.le_trans (Nat.sub_le _ _) hl'
    walk_at "wh"
    refine .mk (⟨rest, hrl⟩ : IBig) ?_
    walk_at "wh"
    refine br_of (fun e => ?_) (fun e => ?_)
    · have hw := hcut.1 (not_t e)
      walk_at "wh"
      refine join_e (σ := { n : Str // n = wordO why }) (fun n => (.str n.1, [])) (fun C hC => ?_) (fun n => ?_)
      · cases wh with
        | nil =>
          walk_at "wh"
          refine .mk (⟨rest, hrl⟩ : IBig) ?_
          exact hC ⟨_, by rw [hw]; rfl⟩
        | cons s wh =>
          walk_at "wh"
          exact hC ⟨_, by rw [hw]; rfl⟩
      · walk_at "gd"
        · exact strOk_wordO _
        walk_at "gd"
        · rw [n.2]; exact strOk_wordO _
        walk_at "wh"
        exact at_ (P := fun z => Q (.bool z) []) (eqs n.2.symm (strOk_wordO _)) h
    · have hb := hcut.2 (not_f e)
      walk_at "gd"
      · exact strOk_wordO _
      walk_at "gd"
      · exact strOk_word .short
      walk_at "wh"
      refine br_of (fun e => ?_) (fun e => ?_)
      · walk_at "wh"
        exact at_ (P := fun z => Q (.bool z) []) e h
      · have hb := hb.resolve_left fun q => nomatch e.symm.trans (eqs (congrArg wordO q) (strOk_wordO _))
        walk_at "gd"
        · exact oks_sps wh
        walk_at "gd"
        · exact oks_sps _
        walk_at "wh"
        refine br_t ?_ ?_
        · rw [hb.1]; exact eqv_same (d := spsD x.1.1.fs) (oks_sps _) false
        walk_at "gd"
        · exact strOk_wordO _
        walk_at "gd"
        · exact strOk_wordO _
        walk_at "wh"
        exact at_ (P := fun z => Q (.bool z) []) (eqs (congrArg wordO hb.2) (strOk_wordO _)) h
theorem row_rest {N : Nat} {gs : List Fr} {rest : List UInt8} {fs : List Sp} {w : Option Exn} (hne : gs ≠ []) (hg : ∀ f ∈ gs, Good N f) (h : Stp N true 0 rest fs w) (hb : begins rest = true) :
    Stp N true 0 (cat gs ++ rest) (rowS 0 gs ++ fs.map (·.sh (cat gs).length)) w := by
  refine stp_row hg ?_
  rw [show (true && gs.isEmpty) = false by cases gs with
    | nil => exact absurd rfl hne
    | cons => rfl]
  exact (h.fst (first' := false) hb).shift _
theorem row_bad {N : Nat} {gs : List Fr} {rest : List UInt8} (hne : gs ≠ []) (hg : ∀ f ∈ gs, Good N f) (hr : rest ≠ []) (hb : begins rest = false) :
    Stp N true 0 (cat gs ++ rest) (rowS 0 gs ++ []) (some .trailing) := by
  refine stp_row hg ?_
  rw [show (true && gs.isEmpty) = false by cases gs with
    | nil => exact absurd rfl hne
    | cons => rfl]
  exact .err hr (meas_not hb)
def wdS : Option Exn → Str
  | some e => word e
  | none => ""
def wdOk (N : Nat) (rest : List UInt8) (wd : D) : Prop := rest ≠ [] ∧ ∀ fs w, Stp N true 0 rest fs w → wd = .none ∨ wd = .str (wdS w)
structure IRR (N : Nat) where
  gs : List Fr
  rest : List UInt8
  wd : D
  hne : gs ≠ []
  hg : ∀ f ∈ gs, Good N f
  hl : (cat gs).length + rest.length ≤ 1000000
  hw : wdOk N rest wd
abbrev cRR (N : Nat) : PF := sp (fun x : IRR N => ([.bytes (cat x.gs), spsD (rowS 0 x.gs), .bytes x.rest, x.wd], [])) fun x Q _ => Q (.bool true) []
theorem eql {a b : List D} (h : a = b) (k : okDs 31 a = true) : negB false (PyData.eqv (pyD (.list a)) (pyD (.list b))) = true := by subst h; exact eqv_same (d := .list a) k false
theorem wd_ok {wd : D} {s : Str} (h : wd = .none ∨ wd = .str s) (hs : PyData.strOk s = true) : okD 32 wd = true ∧ inB [.str s, .none] wd = true := by
  rcases h with rfl | rfl
  · exact ⟨rfl, rfl⟩
  · exact ⟨hs, (Bool.or_eq_true _ _).mpr (.inl (eqs rfl hs))⟩
abbrev IBent := { x : J × List UInt8 × List Sp // x.2.2 ≠ [] ∧ (∀ s ∈ x.2.2, s.b + 8 ≤ x.2.1.length) ∧ x.2.2.length ≤ 1000000 ∧ x.2.1.length ≤ 900000 }
abbrev cBent : PF := sp (fun x : IBent => ([.hl 0, .bytes x.1.2.1, spsD x.1.2.2], [jm x.1.1])) fun x Q _ =>
  ∀ (spot : Nat) (bent : List UInt8) j, spot ≤ x.1.2.1.length → spot ≤ bent.length → bent.take spot = x.1.2.1.take spot → bent.length ≤ x.1.2.1.length + 1 → Q (.tup [nD spot, .bytes bent]) [jm j]
theorem xor_byte : ∀ x < 256, ∀ k < 8, Builtin.bitXor (.ofNat x) (.ofNat (2 ^ k)) = .ofNat (x ^^^ 2 ^ k) ∧ x ^^^ 2 ^ k < 256 ∧ x ^^^ 2 ^ k ≠ x := by decide +kernel
theorem cat_ok {α : Type} {a b : List α} (ha : a.length ≤ 8000000) (hb : b.length ≤ 8000000) : Nat.ble (a.length + b.length) 16777216 = true := ble_of (by lia)
theorem sub_le {l s c : Nat} (h : s ≤ l) : l - (s + 1 + c) + s ≤ l + 1 := by lia
theorem sub_le' {l s : Nat} (h : s < l) : l - (s + 1) + 1 + s ≤ l + 1 := by lia
theorem bent_of {l m : List UInt8} {spot : Nat} (h : spot ≤ l.length) (hm : m.length + spot ≤ l.length + 1) : spot ≤ (l.take spot ++ m).length ∧ (l.take spot ++ m).take spot = l.take spot ∧ (l.take spot ++ m).length ≤ l.length + 1 := by
  have h1 : (l.take spot).length = spot := by rw [List.length_take]; exact Nat.min_eq_left h
  have h2 := List.take_left' (l₂ := m) h1
  rw [List.length_append, h1]
  exact ⟨Nat.le_add_right _ _, h2, Nat.le_trans (Nat.le_of_eq (Nat.add_comm _ _)) hm⟩
theorem l_rr {N : Nat} (O : ((GG prog w h₀ mg mb tabs tq)).Ok) (h__law_spans : FK (GG prog w h₀ mg mb tabs tq) 10 439 (cSpL N)) (h__law_begins : FK (GG prog w h₀ mg mb tabs tq) 2 458 cBeg) (h__law_other : FK (GG prog w h₀ mg mb tabs tq) 2 465 cOth) (h__law_led : FK (GG prog w h₀ mg mb tabs tq) 2 451 cLed) : FK (GG prog w h₀ mg mb tabs tq) 11 491 ((cRR N)) :=
  FV_ct (LX O [⟨439, .fv 10 _ h__law_spans⟩, ⟨458, .fv 2 _ h__law_begins⟩, ⟨465, .fv 2 _ h__law_other⟩, ⟨451, .fv 2 _ h__law_led⟩]) (defS 4 [] 2 (wSeq (wTg (gTS [5, 4]) (tTup (l1 (tCall (l1 (tVar 2) l0) ((cSpL N))) (l1 (tCall (l1 (t2 (tVar 0) (tVar 2) tPlus) l0) ((cSpL N))) l0)))) (wSeq (wIf (tNot (tTrue (tCall (l1 (tVar 2) l0) cBeg))) (wSeq (wRet (vAnd (t2 (tVar 4) (tCall (l1 (tVar 2) l0) cOth) oEq) (vAnd (t2 (tVar 5) (tD (.str "trailing")) oEq) (t2 (tVar 3) (tTup (l1 (tVar 4) (l1 (tD .none) l0))) tIn)))) wSkip) wSkip) (wSeq (wIf (tTrue (tBi (l1 (tVar 4) (l1 (tD (.ty .str)) l0)) tIsi)) (wSeq (wRet (vAnd (t2 (tVar 5) (tVar 4) oEq) (t2 (tVar 3) (tTup (l1 (tVar 4) (l1 (tD .none) l0))) tIn))) wSkip) wSkip) (wSeq (wRet (vAnd (t2 (tVar 5) (t2 (tVar 1) (tCall (l1 (tVar 4) (l1 (tBi (l1 (tVar 0) l0) tLen) l0)) cLed) tPlus) oEq) (t2 (tVar 3) (tTup (l1 (tD (.str "")) (l1 (tD .none) l0))) tIn))) wSkip))))) [] [] rfl (.simple rfl) (fun _ _ _ _ _ => .nil) fun x Q Ex h => by
    have hrl : x.rest.length ≤ 1000000 := Nat.le_trans (Nat.le_add_left _ _) x.hl
    have hbl : (cat x.gs ++ x.rest).length ≤ 1000000 := by rw [List.length_append]; exact x.hl
    cases hb : begins x.rest with
    | false =>
      walk_at "wh"
      refine .mk (⟨x.rest, hrl, [], some (otherE x.rest), .err x.hw.1 (meas_not hb)⟩ : ISp N) ?_
      walk_at "gd"
      · exact ble_of (Nat.le_trans x.hl (by decide))
      walk_at "wh"
      refine .mk (⟨cat x.gs ++ x.rest, hbl, _, _, row_bad x.hne x.hg x.hw.1 hb⟩ : ISp N) ?_
      walk_at "wh"
      refine .mk (⟨x.rest, hrl⟩ : IBig) ?_
      walk_at "wh"

      refine br_t (congrArg not hb) ?_
      walk_at "wh"
      refine .mk (⟨x.rest, hrl⟩ : IBig) ?_
      walk_at "gd"
      · exact strOk_word _
      walk_at "gd"
      · exact strOk_word _
      walk_at "wh"
      refine br_t (eqs rfl (strOk_word _)) ?_
      have hi := wd_ok (x.hw.2 _ _ (.err x.hw.1 (meas_not hb))) (strOk_word _)
      walk_at "gd"
      · exact strOk_word .trailing
      walk_at "gd"
      · exact strOk_word .trailing
      walk_at "gd"
      · exact hi.1
      walk_at "gd"
      · exact and_i (strOk_word _) rfl
      walk_at "wh"
      exact at_ (P := fun z => Q (.bool z) []) hi.2 h
    | true =>
      obtain ⟨fs, w, hS⟩ := Stp.ex (N := N) x.rest.length true 0 x.rest (Nat.le_refl _)
      have hB := row_rest x.hne x.hg hS hb
      have hw := x.hw.2 _ _ hS
      cases w with
      | some e =>
        walk_at "wh"
        refine .mk (⟨x.rest, hrl, fs, some e, hS⟩ : ISp N) ?_
        walk_at "gd"
        · exact ble_of (Nat.le_trans x.hl (by decide))
        walk_at "wh"
        refine .mk (⟨cat x.gs ++ x.rest, hbl, _, _, hB⟩ : ISp N) ?_
        walk_at "wh"
        refine .mk (⟨x.rest, hrl⟩ : IBig) ?_
        walk_at "wh"

        refine br_f (congrArg not hb) ?_
        walk_at "gd"
        · exact strOk_word _
        walk_at "gd"
        · exact strOk_word _
        walk_at "wh"
        refine br_t (eqs rfl (strOk_word _)) ?_
        have hi := wd_ok hw (strOk_word _)
        walk_at "gd"
        · exact hi.1
        walk_at "gd"
        · exact and_i (strOk_word _) rfl
        walk_at "wh"
        exact at_ (P := fun z => Q (.bool z) []) hi.2 h
      | none =>
        walk_at "wh"
        refine .mk (⟨x.rest, hrl, fs, none, hS⟩ : ISp N) ?_
        walk_at "gd"
        · exact ble_of (Nat.le_trans x.hl (by decide))
        walk_at "wh"
        refine .mk (⟨cat x.gs ++ x.rest, hbl, _, _, hB⟩ : ISp N) ?_
        walk_at "wh"
        refine .mk (⟨x.rest, hrl⟩ : IBig) ?_
        walk_at "wh"

        refine br_f (congrArg not hb) ?_
        walk_at "gd"
        · exact ble_of (Nat.le_trans (Nat.le_trans (Nat.le_add_right _ _) x.hl) (by decide))
        walk_at "gd"
        · exact and_i (clDs_map clD_spT _) rfl
        walk_at "wh"
        refine .mk (⟨(fs, (cat x.gs).length), Nat.le_trans hS.count hrl⟩ : ILed) ?_
        have hn := hB.count
        rw [List.length_append, List.length_map] at hn
        walk_at "gd"
        · rw [List.length_map, List.length_map, List.length_map]; exact ble_of (Nat.le_trans hn hbl)
        walk_at "gd"
        · exact oks_sps _
        walk_at "gd"
        · exact at_ (P := fun l => okDs 31 l = true) List.map_append.symm (oks_sps _)
        walk_at "wh"
        refine br_t (eql List.map_append (oks_sps _)) ?_
        have hi := wd_ok hw (by decide +kernel)
        walk_at "gd"
        · exact hi.1
        walk_at "gd"
        · decide +kernel
        walk_at "wh"
        exact at_ (P := fun z => Q (.bool z) []) hi.2 h
theorem l_bent (O : ((GG prog w h₀ mg mb tabs tq)).Ok) (h__law_take : FK (GG prog w h₀ mg mb tabs tq) 2 377 cTk) (h__law_some : FK (GG prog w h₀ mg mb tabs tq) 4 382 cSome) : FK (GG prog w h₀ mg mb tabs tq) 5 498 cBent :=
  FV_ct (LX O [⟨377, .fv 2 _ h__law_take⟩, ⟨382, .fv 4 _ h__law_some⟩]) (defS 3 [] 3 (wSeq (wTg (gTS [4, 3]) (tTup (l1 (t2 (tVar 2) (tCall (l1 (tVar 0) (l1 (tBi (l1 (tVar 2) l0) tLen) l0)) cTk) tItem) (l1 (tCall (l1 (tVar 0) (l1 (tBi (l1 (tVar 1) l0) tLen) l0)) cTk) l0)))) (wSeq (wJ (wIf (tTrue (t2 (tCall (l1 (tVar 0) (l1 (tD (.int 2)) l0)) cTk) (tD (.int 0)) oEq)) (wSeq (wSet 4 (t2 (t2 (tVar 3) (tD (.int 0)) tItem) (tCall (l1 (tVar 0) (l1 (tD (.int 8)) l0)) cTk) tPlus)) wSkip) wSkip)) (wSeq (wSet 5 (tCall (l1 (tVar 0) (l1 (tD (.int 4)) l0)) cTk)) (wSeq (wIf (tTrue (t2 (tVar 5) (tD (.int 0)) oEq)) (wSeq (wRet (tTup (l1 (tVar 4) (l1 (t2 (t2 (tCut (tVar 1) (tD .none) (tVar 4)) (tCall (l1 (tVar 0) (l1 (tD (.int 1)) l0)) cSome) tPlus) (tCut (tVar 1) (tVar 4) (tD .none)) tPlus) l0)))) wSkip) wSkip) (wSeq (wIf (tTrue (t2 (tVar 5) (tD (.int 1)) oEq)) (wSeq (wRet (tTup (l1 (tVar 4) (l1 (t2 (tCut (tVar 1) (tD .none) (tVar 4)) (tCut (tVar 1) (t2 (t2 (tVar 4) (tD (.int 1)) tPlus) (tCall (l1 (tVar 0) (l1 (tD (.int 3)) l0)) cTk) tPlus) (tD .none)) tPlus) l0)))) wSkip) wSkip) (wSeq (wRet (tTup (l1 (tVar 4) (l1 (t2 (t2 (tCut (tVar 1) (tD .none) (tVar 4)) (tBi (l1 (tList (l1 (t2 (t2 (tVar 1) (tVar 4) tItem) (t2 (tD (.int 2)) (tCall (l1 (tVar 0) (l1 (tD (.int 8)) l0)) cTk) oPow) oXor) l0)) l0) tBytes) tPlus) (tCut (tVar 1) (t2 (tVar 4) (tD (.int 1)) tPlus) (tD .none)) tPlus) l0)))) wSkip))))))) [] [] (by with_unfolding_all rfl) (.simple rfl) (fun _ _ _ _ _ => .nil) fun x Q Ex h => by
    walk_at "gd"
    · rw [List.length_map]; exact ble_of (Nat.le_trans x.2.2.2.1 (by decide))
    walk_at "wh"
    refine .mk (⟨(x.1.1, (x.1.2.2.map Sp.T).length), by rw [List.length_map]; exact and_i (ble_of (List.length_pos_iff.mpr x.2.1)) (ble_of (Nat.le_trans x.2.2.2.1 (by decide)))⟩ : ITk) fun i j hi => ?_
    have hi : i < x.1.2.2.length := Nat.lt_of_lt_of_eq hi (List.length_map _)
    walk_at "gd"
    · rw [List.length_map]; exact ble_of (Nat.le_trans x.2.2.2.1 (by decide))
    walk_at "wh"
    have hs := x.2.2.1 _ (List.getElem_mem hi)
    refine need_of (a := (x.1.2.2[i]).T) (by rw [List.getElem?_map, List.getElem?_eq_getElem hi]; rfl) ?_
    walk_at "gd"
    · exact ble_of (Nat.le_trans x.2.2.2.2 (by decide))
    walk_at "wh"
    refine .mk (⟨(j, x.1.2.1.length), and_i (ble_of (Nat.le_trans (Nat.le_trans (by decide) (Nat.le_add_left 8 _)) hs)) (ble_of (Nat.le_trans x.2.2.2.2 (by decide)))⟩ : ITk) fun spot j hspot => ?_
    walk_at "wh"
    refine join (σ := { s : Nat × J // s.1 < x.1.2.1.length }) (fun s => ([some (.hl 0), some (.bytes x.1.2.1), some (spsD x.1.2.2), some (x.1.2.2[i]).T, some (nD s.1.1), none], [jm s.1.2])) (fun C hC => ?_) (fun s => ?_)
    · walk_at "wh"
      refine .mk (⟨(j, 2), rfl⟩ : ITk) fun c j hc => ?_
      walk_at "wh"
      refine br_of (fun e => ?_) (fun e => ?_)
      · walk_at "wh"
        refine .mk (⟨(j, 8), rfl⟩ : ITk) fun c j hc => ?_
        walk_at "wh"
        exact hC ⟨((x.1.2.2[i]).b + c, j), Nat.lt_of_lt_of_le (Nat.add_lt_add_left hc _) hs⟩
      · walk_at "wh"
        exact hC ⟨(spot, j), hspot⟩
    have hsl := Nat.le_of_lt s.2
    have hlen := x.2.2.2.2
    have htk : (x.1.2.1.take s.1.1).length ≤ 1000000 := by rw [List.length_take]; exact Nat.le_trans (Nat.min_le_right _ _) (Nat.le_trans hlen (by decide))
    have hdr : ∀ n, (x.1.2.1.drop n).length ≤ 1000000 := fun n => by rw [List.length_drop]; exact Nat.le_trans (Nat.sub_le _ _) (Nat.le_trans hlen (by decide))
    walk_at "wh"
    refine .mk (⟨(s.1.2, 4), rfl⟩ : ITk) fun kd j hkd => ?_
    walk_at "wh"
    refine br_of (fun e => ?_) (fun e => ?_)
    · walk_at "gd"
      · exact ble_of (Nat.le_trans hlen (by decide))
      walk_at "wh"
      refine .mk (⟨(j, 1), Nat.le_of_ble_eq_true rfl⟩ : ISome) fun l j hl => ?_
      walk_at "gd"
      · exact cat_ok (Nat.le_trans htk (by decide)) (Nat.le_trans (Nat.le_of_eq hl) (Nat.le_of_ble_eq_true rfl))
      walk_at "gd"
      · exact ble_of (Nat.le_trans hlen (by decide))
      walk_at "gd"
      · rw [List.length_append, hl]; exact ble_of (Nat.le_trans (Nat.add_le_add (Nat.add_le_add_right htk _) (hdr _)) (show 1000000 + 1 + 1000000 ≤ 16777216 by decide))
      walk_at "wh"
      have hb := bent_of (m := l ++ x.1.2.1.drop s.1.1) hsl (by rw [List.length_append, hl, List.length_drop, Nat.add_assoc, Nat.sub_add_cancel hsl, Nat.add_comm]; exact Nat.le_refl _)
      exact at_ (P := fun z => Q (.tup [nD s.1.1, .bytes z]) [jm j]) (List.append_assoc _ _ _) (h s.1.1 _ j hsl hb.1 hb.2.1 hb.2.2)
    walk_at "wh"
    refine br_of (fun e => ?_) (fun e => ?_)
    · walk_at "gd"
      · exact ble_of (Nat.le_trans hlen (by decide))
      walk_at "wh"
      refine .mk (⟨(j, 3), rfl⟩ : ITk) fun c j hc => ?_
      walk_at "gd"
      · exact ble_of (Nat.le_trans hlen (by decide))
      walk_at "gd"
      · exact cat_ok (Nat.le_trans htk (by decide)) (Nat.le_trans (hdr _) (by decide))
      walk_at "wh"
      have hb := bent_of (m := x.1.2.1.drop (s.1.1 + 1 + c)) hsl (by rw [List.length_drop]; exact sub_le hsl)
      exact h s.1.1 _ j hsl hb.1 hb.2.1 hb.2.2
    · walk_at "gd"
      · exact ble_of (Nat.le_trans hlen (by decide))
      walk_at "wh"
      refine ⟨s.2, Nat.le_trans hlen (by decide), ?_⟩
      walk_at "wh"
      refine .mk (⟨(j, 8), rfl⟩ : ITk) fun c j hc => ?_
      walk_at "gd"
      · exact and_i (ble_of (Nat.le_trans (Nat.le_of_lt hc) (Nat.le_of_ble_eq_true rfl))) rfl
      walk_at "wh"
      obtain ⟨y1, y2, _⟩ := xor_byte _ (x.1.2.1.getD s.1.1 0).toNat_lt c hc
      refine need_of (a := [UInt8.ofNat ((x.1.2.1.getD s.1.1 0).toNat ^^^ 2 ^ c)]) ((congrArg (fun z => octsI [z]) y1).trans (octs_cons y2 rfl)) ?_
      walk_at "gd"
      · exact ble_of (Nat.le_trans (Nat.succ_le_succ htk) (by decide))
      walk_at "gd"
      · exact ble_of (Nat.le_trans hlen (by decide))
      walk_at "gd"
      · rw [List.length_append]; exact ble_of (Nat.le_trans (Nat.add_le_add (Nat.add_le_add_right htk _) (hdr _)) (show 1000000 + 1 + 1000000 ≤ 16777216 by decide))
      walk_at "wh"
      have hb := bent_of (m := UInt8.ofNat ((x.1.2.1.getD s.1.1 0).toNat ^^^ 2 ^ c) :: x.1.2.1.drop (s.1.1 + 1)) hsl (by rw [List.length_cons, List.length_drop]; exact sub_le' s.2)
      exact at_ (P := fun z => Q (.tup [nD s.1.1, .bytes z]) [jm j]) (List.append_assoc _ [_] _) (h s.1.1 _ j hsl hb.1 hb.2.1 hb.2.2)
theorem same_cut {N : Nat} {l l' : List UInt8} {fs fs' : List Sp} {w w' : Option Exn} {c : Nat} (h : Stp N true 0 l fs w) (h' : Stp N true 0 l' fs' w') (e : l.take c = l'.take c) (hc : c ≤ l.length) (hc' : c ≤ l'.length) :
    (fs.filter fun s => decide (s.e ≤ c)) = fs'.filter fun s => decide (s.e ≤ c) := by
  obtain ⟨why, _, _, h1, _⟩ := h.cut0 hc rfl
  obtain ⟨why', _, _, h2, _⟩ := h'.cut0 hc' rfl
  rw [e] at h1
  exact (h1.det h2).1
theorem rowS_in : ∀ (gs : List Fr) (b : Nat), ∀ s ∈ rowS b gs, ∃ f ∈ gs, s.e = s.b + f.body.length ∧ s.told = f.told ∧ s.blocks = f.blocks ∧ b ≤ s.b ∧ s.e ≤ b + (cat gs).length ∧ ∃ pre suf, cat gs = pre ++ (f.body ++ suf) ∧ s.b = b + pre.length
  | [], _, s, h => nomatch h
  | f :: gs, b, s, h => by
    rcases List.mem_cons.mp h with rfl | h
    · exact ⟨f, .head _, rfl, rfl, rfl, Nat.le_refl _, by rw [cat, List.length_append, ← Nat.add_assoc]; exact Nat.le_add_right _ _, [], cat gs, rfl, rfl⟩
    · obtain ⟨g, h1, h2, h3, h4, h5, h6, pre, suf, h7, h8⟩ := rowS_in gs (b + f.body.length) s h
      exact ⟨g, .tail _ h1, h2, h3, h4, Nat.le_trans (Nat.le_add_right _ _) h5, by rw [cat, List.length_append, ← Nat.add_assoc]; exact h6, f.body ++ pre, suf, by rw [cat, h7, List.append_assoc], by rw [List.length_append, ← Nat.add_assoc]; exact h8⟩
structure IBentR (N : Nat) where
  j : J
  gs : List Fr
  deep : Bool
  hne : gs ≠ []
  hg : ∀ f ∈ gs, Good N f ∧ 8 ≤ f.body.length
  hl : (cat gs).length ≤ 800000
abbrev cBentR (N : Nat) : PF := sp (fun x : IBentR N => ([.hl 0, .bytes (cat x.gs), spsD (rowS 0 x.gs), .bool x.deep], [jm x.j])) fun x Q _ => ∀ j, Q (.bool true) [jm j]
theorem neq_out {μ : List MO} {fs : List Sp} {w : Option Exn} {Q : D → Prop} (hq : Q (.bool false)) : tJ tNeq μ (outD fs w) (outD fs w) Q := by
  cases w with
  | none => exact neq_same (oks_sps fs) hq
  | some e =>
    refine tJ_of (guard_of (strOk_word e) (guard_of (strOk_word e) ?_))
    exact at_ (P := fun z => Q (.bool z)) (eqv_same (d := .str (word e)) (strOk_word e) true) hq
theorem Stp.piece1 {N : Nat} {l : List UInt8} {fs : List Sp} {w : Option Exn} (h : Stp N true 0 l fs w) {s : Sp} (hs : s ∈ fs) : Stp N true 0 ((l.drop s.b).take (s.e - s.b)) [⟨0, s.e - s.b, s.told, s.blocks⟩] none ∧ s.b ≤ s.e ∧ s.e ≤ l.length ∧ 1 ≤ s.e := by
  obtain ⟨_, p2, p3, p4⟩ := h.piece s hs
  rw [Nat.zero_add] at p3
  have hl : ((l.drop s.b).take (s.e - s.b)).length = s.e - s.b := by rw [List.length_take, List.length_drop]; exact Nat.min_eq_left (Nat.sub_le_sub_right p3 _)
  have h1 := p4 true []
  rw [Nat.sub_zero, List.append_nil] at h1
  have := Stp.one (N := N) (v := (s.told, s.blocks)) (h1.trans (by rw [hl]))
  rw [hl] at this
  exact ⟨this, by lia, p3, by lia⟩
theorem row_ne : ∀ {gs : List Fr}, gs ≠ [] → rowS 0 gs ≠ []
  | [], h => absurd rfl h
  | _ :: _, _ => List.cons_ne_nil _ _
theorem row_8 {N : Nat} {gs : List Fr} (hg : ∀ f ∈ gs, Good N f ∧ 8 ≤ f.body.length) : ∀ s ∈ rowS 0 gs, s.b + 8 ≤ (cat gs).length := fun s hs => by
  obtain ⟨f, h1, h2, _, _, _, h3, _⟩ := rowS_in gs 0 s hs
  have := (hg f h1).2
  lia
theorem l_bentr {N : Nat} (O : ((GG prog w h₀ mg mb tabs tq)).Ok) (h__law_bent : FK (GG prog w h₀ mg mb tabs tq) 5 498 cBent) (h__law_steps : FK (GG prog w h₀ mg mb tabs tq) 10 446 (cStep N)) (h__law_spans : FK (GG prog w h₀ mg mb tabs tq) 10 439 (cSpL N)) (h__law_begins : FK (GG prog w h₀ mg mb tabs tq) 2 458 cBeg) (h__law_other : FK (GG prog w h₀ mg mb tabs tq) 2 465 cOth) (h__law_begin_right : FK (GG prog w h₀ mg mb tabs tq) 11 470 (cBR N)) (h__law_place : FK (GG prog w h₀ mg mb tabs tq) 4 477 cPlace) (h__law_some : FK (GG prog w h₀ mg mb tabs tq) 4 382 cSome) : FK (GG prog w h₀ mg mb tabs tq) 12 503 ((cBentR N)) :=
  FV_ct (LX O [⟨498, .fv 5 _ h__law_bent⟩, ⟨446, .fv 10 _ h__law_steps⟩, ⟨439, .fv 10 _ h__law_spans⟩, ⟨458, .fv 2 _ h__law_begins⟩, ⟨465, .fv 2 _ h__law_other⟩, ⟨470, .fv 11 _ h__law_begin_right⟩, ⟨477, .fv 4 _ h__law_place⟩, ⟨382, .fv 4 _ h__law_some⟩]) (defS 4 [] 10 (wSeq (wTg (gT [4, 5]) (tCall (l1 (tVar 0) (l1 (tVar 1) (l1 (tVar 2) l0))) cBent)) (wSeq (wTg (gT [6, 7]) (tCall (l1 (tVar 5) l0) ((cStep N)))) (wSeq (wIf (tTrue (t2 (tComp ([none, none, some 4]) (iList (tVar 6)) (gN 1) (tTrue (t2 (t2 (tVar 1) (tD (.int 1)) tItem) (tVar 2) oLe)) (tVar 1)) (tComp ([none, none, some 4]) (iList (tVar 2)) (gN 1) (tTrue (t2 (t2 (tVar 1) (tD (.int 1)) tItem) (tVar 2) oLe)) (tVar 1)) (tJ tNeq))) (wSeq (wRet (tD (.bool false))) wSkip) wSkip) (wSeq (wIf (tTrue (t2 (tCall (l1 (tVar 5) l0) ((cSpL N))) (eJ (tIf (tTrue (t2 (tVar 7) (tD (.str "end")) oEq)) (tVar 6) (tVar 7))) (tJ tNeq))) (wSeq (wRet (tD (.bool false))) wSkip) wSkip) (wSeq (wFor (iRange (eJ (tIf (tTrue (tVar 3)) (tD (.int 2)) (tD (.int 0))))) (gN 8) (wSeq (wIf (tNot (tTrue (tCall (l1 (tVar 5) (l1 (tVar 6) (l1 (tVar 7) (l1 (tCall (l1 (tVar 0) (l1 (tVar 6) (l1 (tBi (l1 (tVar 5) l0) tLen) l0))) cPlace) l0)))) ((cBR N))))) (wSeq (wRet (tD (.bool false))) wSkip) wSkip) wSkip)) (wSeq (wFor (iList (eJ (tIf (tTrue (tVar 3)) (tVar 6) (tList l0)))) (gT [9, 10, 11, 12]) (wSeq (wIf (tTrue (t2 (tCall (l1 (tCut (tVar 5) (tVar 9) (tVar 10)) l0) ((cSpL N))) (tList (l1 (tTup (l1 (tD (.int 0)) (l1 (t2 (tVar 10) (tVar 9) oSub) (l1 (tVar 11) (l1 (tVar 12) l0))))) l0)) (tJ tNeq))) (wSeq (wRet (tD (.bool false))) wSkip) wSkip) wSkip)) (wSeq (wJ (wSet 13 (tCut (tVar 5) (eJ (tIf (tTrue (t2 (tVar 6) (tList l0) tNeq)) (t2 (t2 (tVar 6) (tD (.int (-1))) tItem) (tD (.int 1)) tItem) (tD (.int 0)))) (tD .none)))) (wSeq (wIf (tTrue (t2 (tVar 13) (tD (.bytes [])) oEq)) (wSeq (wRet (t2 (tVar 7) (tD (.str "end")) oEq)) wSkip) wSkip) (wSeq (wJ (wIf (tAnd (tTrue (t2 (tVar 7) (tD (.str "short")) tNeq)) (tAnd (tTrue (t2 (tBi (l1 (tVar 13) l0) tLen) (tD (.int 3)) oGt)) (tAnd (tTrue (t2 (tCall (l1 (t2 (tVar 5) (tCall (l1 (tVar 0) (l1 (tD (.int 3)) l0)) cSome) tPlus) l0) ((cSpL N))) (tVar 7) tNeq)) (tB true)))) (wSeq (wRet (tD (.bool false))) wSkip) wSkip)) (wSeq (wIf (tTrue (tCall (l1 (tVar 13) l0) cBeg)) (wSeq (wRet (t2 (tCall (l1 (tVar 13) l0) ((cSpL N))) (tVar 7) oEq)) wSkip) wSkip) (wSeq (wRet (vAnd (t2 (tCall (l1 (tVar 13) l0) ((cSpL N))) (tCall (l1 (tVar 13) l0) cOth) oEq) (t2 (tVar 7) (eJ (tIf (tTrue (t2 (tVar 6) (tList l0) tNeq)) (tD (.str "trailing")) (tCall (l1 (tVar 13) l0) cOth))) oEq))) wSkip)))))))))))) [] [] (by with_unfolding_all rfl) (.simple rfl) (fun _ _ _ _ _ => .nil) fun x Q Ex h => by
    have hgood : ∀ f ∈ x.gs, Good N f := fun f h => (x.hg f h).1
    have hrow := stp_row0 hgood
    have hcnt := Nat.le_trans hrow.count x.hl
    walk_at "gd"
    · exact and_i rfl (and_i (clDs_map clD_spT _) rfl)
    walk_at "wh"
    refine .mk (⟨(x.j, cat x.gs, rowS 0 x.gs), row_ne x.hne, row_8 x.hg, Nat.le_trans hcnt (by decide), Nat.le_trans x.hl (by decide)⟩ : IBent) fun spot bent j g1 g2 g3 g4 => ?_
    have g4' : bent.length ≤ 800001 := Nat.le_trans g4 (Nat.succ_le_succ x.hl)
    have hbl : bent.length ≤ 1000000 := Nat.le_trans g4 (Nat.le_trans (Nat.succ_le_succ x.hl) (by decide))
    obtain ⟨fs, w, hS⟩ := Stp.ex (N := N) bent.length true 0 bent (Nat.le_refl _)
    have hfl := Nat.le_trans hS.count hbl
    have hsame := same_cut hS hrow g3 g2 g1
    walk_at "wh"
    refine .mk (⟨bent, hbl, fs, w, hS⟩ : ISp N) ?_
    walk_at "gd"
    · rw [List.length_map]; exact ble_of hfl
    refine comp_le ?_
    walk_at "gd"
    · rw [List.length_map]; exact ble_of (Nat.le_trans hcnt (by decide))
    refine comp_le ?_
    rw [hsame]
    refine neq_same (oks_sps _) ?_
    walk_at "wh"
    refine .mk (⟨bent, hbl, fs, w, hS⟩ : ISp N) ?_
    walk_at "wh"
    refine join_e (σ := Unit) (fun _ => (outD fs w, [jm j])) (fun C hC => ?_) (fun _ => ?_)
    · walk_at "gd"
      · exact strOk_wordO _
      walk_at "gd"
      · exact strOk_wordO none
      walk_at "wh"
      cases w with
      | none =>
        walk_at "wh"
        exact hC ()
      | some e =>
        refine br_of (fun e => ?_) (fun e => ?_)
        · exact absurd (wordO_inj (some _) none (eqs_t e)) (fun q => nomatch q)
        · walk_at "wh"
          exact hC ()
    refine neq_out ?_
    walk_at "wh"
    refine join_e (σ := { n : Nat // n ≤ 2 }) (fun n => (nD n.1, [jm j])) (fun C hC => ?_) (fun n => ?_)
    · walk_at "wh"
      refine br_of (fun e => ?_) (fun e => ?_)
      · walk_at "wh"
        exact hC ⟨2, Nat.le_refl _⟩
      · walk_at "wh"
        exact hC ⟨0, Nat.zero_le _⟩
    refine ⟨Nat.le_trans n.2 (by decide), ?_⟩
    refine for_range (σ := fun _ => J × Option D) (fun i s => ([some (.hl 0), some (.bytes (cat x.gs)), some (spsD (rowS 0 x.gs)), some (.bool x.deep), some (nD spot), some (.bytes bent), some (spsD fs), some (.str (wordO w)), s.2, none, none, none, none, none], [jm s.1])) (fun i s C hi hC => ?_) (fun s => ?_) (j, none)
    · walk_at "gd"
      · exact ble_of (Nat.le_trans hbl (by decide))
      walk_at "gd"
      · exact and_i (clDs_map clD_spT _) rfl
      walk_at "wh"
      refine .mk (⟨(s.1, fs, bent.length), fun s hs => (hS.piece1 hs).2.2.2, hfl, hbl, fun s hs => (hS.piece1 hs).2.2.1⟩ : IPl) fun c j hc => ?_
      walk_at "gd"
      · exact and_i rfl (and_i (clDs_map clD_spT _) rfl)
      walk_at "wh"
      refine .mk (⟨(⟨bent, hbl, fs, w, hS⟩, c), hc⟩ : IBR N) ?_
      walk_at "wh"
      exact hC (j, _)
    walk_at "wh"
    refine join_e (σ := { f : List Sp // ∀ s ∈ f, s ∈ fs }) (fun f => (spsD f.1, [jm s.1])) (fun C hC => ?_) (fun f => ?_)
    · walk_at "wh"
      refine br_of (fun e => ?_) (fun e => ?_)
      · walk_at "wh"
        exact hC ⟨fs, fun _ h => h⟩
      · walk_at "wh"
        exact hC ⟨[], fun _ h => nomatch h⟩
    refine for_map (σ := fun _ => Option D × Option D × Option D × Option D) (fun i t => ([some (.hl 0), some (.bytes (cat x.gs)), some (spsD (rowS 0 x.gs)), some (.bool x.deep), some (nD spot), some (.bytes bent), some (spsD fs), some (.str (wordO w)), s.2, t.1, t.2.1, t.2.2.1, t.2.2.2, none], [jm s.1])) (fun i t a C e hC => ?_) (fun t => ?_) (none, none, none, none)
    · obtain ⟨p1, p2, p3, _⟩ := hS.piece1 (f.2 a (List.mem_of_getElem? e))
      walk_at "gd"
      · exact ble_of (Nat.le_trans hbl (by decide))
      walk_at "wh"
      refine .mk (⟨_, by rw [List.length_take, List.length_drop]; exact Nat.le_trans (Nat.min_le_right _ _) (Nat.le_trans (Nat.sub_le _ _) hbl), _, _, p1⟩ : ISp N) ?_
      walk_at "wh"
      refine at_left (Q := fun z => tJ tNeq _ _ (.list [.tup [_, .int z, _, _]]) _) p2 ?_
      refine neq_same (oks_sps [⟨0, a.e - a.b, a.told, a.blocks⟩]) ?_
      walk_at "wh"
      exact hC (_, _, _, _)
    walk_at "wh"
    refine join (σ := Unit) (fun _ => ([some (.hl 0), some (.bytes (cat x.gs)), some (spsD (rowS 0 x.gs)), some (.bool x.deep), some (nD spot), some (.bytes bent), some (spsD fs), some (.str (wordO w)), s.2, t.1, t.2.1, t.2.2.1, t.2.2.2, some (.bytes (bent.drop (lastE 0 fs)))], [jm s.1])) (fun C hC => ?_) (fun _ => ?_)
    · walk_at "wh"
      refine join_e (σ := { n : Nat // n = lastE 0 fs }) (fun n => (nD n.1, [jm s.1])) (fun C hC => ?_) (fun n => ?_)
      · exact last_of hfl (fun n h => hC ⟨n, h⟩)
      walk_at "gd"
      · exact ble_of (Nat.le_trans hbl (by decide))
      walk_at "wh"
      exact at_ (P := fun n => C ([some (.hl 0), some (.bytes (cat x.gs)), some (spsD (rowS 0 x.gs)), some (.bool x.deep), some (nD spot), some (.bytes bent), some (spsD fs), some (.str (wordO w)), _, _, _, _, _, some (.bytes (bent.drop n))]) [jm s.1]) n.2 (hC ())
    walk_at "wh"
    have hrest := hS.rest
    rw [Nat.sub_zero, Bool.true_and] at hrest
    generalize hr : bent.drop (lastE 0 fs) = rest at hrest ⊢
    have hrl : rest.length ≤ 1000000 := by rw [← hr, List.length_drop]; exact Nat.le_trans (Nat.sub_le _ _) hbl
    refine br_of (fun e => ?_) (fun e => ?_)
    · have hw : w = none := hrest.elim (·.2) fun q => absurd (of_decide_eq_true e) q.1
      walk_at "gd"
      · exact strOk_wordO _
      walk_at "gd"
      · exact strOk_wordO none
      walk_at "wh"
      exact at_ (P := fun z => Q (.bool z) [jm s.1]) (eqs (congrArg wordO hw) (strOk_wordO _)) (h _)
    obtain ⟨hrne, e, hw, hrun⟩ := hrest.resolve_left fun q => of_decide_eq_false e q.1
    subst hw
    walk_at "wh"
    refine join (σ := J) (fun j => ([some (.hl 0), some (.bytes (cat x.gs)), some (spsD (rowS 0 x.gs)), some (.bool x.deep), some (nD spot), some (.bytes bent), some (spsD fs), some (.str (wordO (some e))), s.2, t.1, t.2.1, t.2.2.1, t.2.2.2, some (.bytes rest)], [jm j])) (fun C hC => ?_) (fun j => ?_)
    · walk_at "gd"
      · exact strOk_word _
      walk_at "gd"
      · exact strOk_word .short
      walk_at "wh"
      refine br_of (fun e1 => ?_) (fun e1 => ?_)
      · have he : e ≠ .short := fun q => by rw [q] at e1; exact nomatch e1.symm.trans (eqv_same (d := .str (word .short)) (strOk_word .short) true)
        walk_at "gd"
        · exact ble_of (Nat.le_trans hrl (by decide))
        walk_at "wh"
        refine br_of (fun e2 => ?_) (fun e2 => ?_)
        · walk_at "wh"
          refine .mk (⟨(s.1, 3), Nat.le_of_ble_eq_true rfl⟩ : ISome) fun y j hy => ?_
          walk_at "gd"
          · exact cat_ok (Nat.le_trans hbl (by decide)) (Nat.le_trans (Nat.le_of_eq hy) (Nat.le_of_ble_eq_true rfl))
          walk_at "wh"
          refine .mk (⟨bent ++ y, by rw [List.length_append, hy]; exact Nat.le_trans (Nat.add_le_add_right g4' 3) (by decide), fs, some e, hS.more rfl he (by rw [Nat.sub_zero, hr]; exact lt_t e2) y⟩ : ISp N) ?_
          walk_at "gd"
          · exact strOk_word _
          walk_at "gd"
          · exact strOk_word _
          walk_at "wh"
          refine br_f (eqv_same (d := .str (word e)) (strOk_word e) true) ?_
          walk_at "wh"
          exact hC j
        · walk_at "wh"
          exact hC s.1
      · walk_at "wh"
        exact hC s.1
    walk_at "wh"
    refine .mk (⟨rest, hrl⟩ : IBig) ?_
    walk_at "wh"
    refine br_of (fun e1 => ?_) (fun e1 => ?_)
    · walk_at "wh"
      refine .mk (⟨rest, hrl, [], some e, .err hrne ((meas_begins e1).symm.trans hrun)⟩ : ISp N) ?_
      walk_at "gd"
      · exact strOk_word _
      walk_at "gd"
      · exact strOk_word _
      walk_at "wh"
      exact at_ (P := fun z => Q (.bool z) [jm j]) (eqs rfl (strOk_word e)) (h _)
    · have hrun := Out.err.inj ((meas_not e1).symm.trans hrun)
      walk_at "wh"
      refine .mk (⟨rest, hrl, [], some (otherE rest), .err hrne (meas_not e1)⟩ : ISp N) ?_
      walk_at "wh"
      refine .mk (⟨rest, hrl⟩ : IBig) ?_
      walk_at "gd"
      · exact strOk_word _
      walk_at "gd"
      · exact strOk_word _
      walk_at "wh"
      refine br_t (eqs rfl (strOk_word _)) ?_
      walk_at "wh"
      refine join_e (σ := { n : Str // word e = n }) (fun n => (.str n.1, [jm j])) (fun C hC => ?_) (fun n => ?_)
      · cases fs with
        | nil =>
          walk_at "wh"
          refine .mk (⟨rest, hrl⟩ : IBig) ?_
          exact hC ⟨_, by rw [← hrun]; rfl⟩
        | cons a fs =>
          walk_at "wh"
          exact hC ⟨_, by rw [← hrun]; rfl⟩
      · walk_at "gd"
        · exact strOk_word _
        walk_at "gd"
        · rw [← n.2]; exact strOk_word _
        walk_at "wh"
        exact at_ (P := fun z => Q (.bool z) [jm j]) (eqs n.2 (strOk_word _)) (h _)
section

section
variable {α β : Type} {N : Nat} {p : Pr α} {r s a b : List UInt8} {n m f k : Nat} {e : Exn}
theorem add_add {o : Out α} : (o.add m).add n = o.add (n + m) := by
  cases o <;> simp [Out.add, Nat.add_assoc]
theorem add_zero {o : Out α} : o.add 0 = o := by cases o <;> simp [Out.add]
theorem run_get {q : List UInt8 → Pr α} (h : a.length = n) : (Pr.get n e q).run (a ++ s) = ((q a).run s).add n := by
  subst h
  simp [Pr.run]
theorem run_bind {x : α} {g : α → Pr β} (h : p.run r = .ok x n) : (p.bind g).run r = ((g x).run (r.drop n)).add n := by
  induction p generalizing r n with
  | ret y => cases h; simp [Pr.bind, add_zero]
  | fail e => cases h
  | get m e q ih =>
    unfold Pr.run at h
    split at h
    · rename_i hm
      obtain ⟨j, h1, rfl⟩ := add_ok h
      simp only [Pr.bind, Pr.run, if_pos hm]
      rw [ih _ h1, add_add, List.drop_drop]
    · cases h
theorem run_bind_err {g : α → Pr β} (h : p.run r = .err e) : (p.bind g).run r = .err e := by
  induction p generalizing r with
  | ret y => cases h
  | fail e => cases h; rfl
  | get m e q ih =>
    unfold Pr.run at h
    simp only [Pr.bind, Pr.run]
    split at h
    · rename_i hm
      rw [if_pos hm]
      cases h1 : (q (r.take m)).run (r.drop m) with
      | ok x j => rw [h1] at h; cases h
      | err e' => rw [h1] at h; cases h; rw [ih _ h1]; rfl
    · rename_i hm
      rw [if_neg hm]; cases h; rfl
theorem take_run (h : a.length = n) : (takeP n).run (a ++ s) = .ok a n := by
  rw [takeP, run_get h]; simp [Pr.run, Out.add]
theorem little_run (h : a.length = n) : (littleP n).run (a ++ s) = .ok (le a) n := by
  rw [littleP, run_get h]; simp [Pr.run, Out.add]
theorem oct_run (h : a.length = 1) : octP.run (a ++ s) = .ok (octN a) 1 := by
  rw [octP, run_get h]; simp [Pr.run, Out.add]
theorem bind_app {x : α} {g : α → Pr β} (h : p.run (a ++ s) = .ok x a.length) : (p.bind g).run (a ++ s) = ((g x).run s).add a.length := by
  rw [run_bind h, List.drop_left]

/-! ## little-endian numbers -/
theorem ofNat_mod (v : Nat) : (UInt8.ofNat (v % 256)).toNat = v % 256 := by
  simp [UInt8.toNat_ofNat']
theorem le_low (v n : Nat) : le (low v n) = v % 256 ^ n := by
  induction n with
  | zero => exact (Nat.mod_one v).symm
  | succ n ih => rw [low_snoc, le_snoc, low_len, ih, ofNat_mod, Nat.pow_mul, Nat.mod_pow_succ, Nat.mul_comm]
theorem le_low3 {v : Nat} (h : v < 16777216) : le (low v 3) = v := (le_low v 3).trans (Nat.mod_eq_of_lt h)
theorem le_low4 {v : Nat} (h : v < 4294967296) : le (low v 4) = v := (le_low v 4).trans (Nat.mod_eq_of_lt h)

/-! ## blocks -/
def encB (last : Bool) (kind size : Nat) (body : List UInt8) : List UInt8 := low (8 * size + 2 * kind + (if last = true then 1 else 0)) 3 ++ body
theorem blk_run {last : Bool} {kind size : Nat} {body : List UInt8} {acc : Bl} (hk : kind < 3) (hs : size < 2097152) (hb : body.length = if kind = 1 then 1 else size) :
    (blkP (f + 1) acc).run (encB last kind size body ++ s) = if last = true then .ok (acc ++ [(kind, size)]) (encB last kind size body).length else ((blkP f (acc ++ [(kind, size)])).run s).add (encB last kind size body).length := by
  have hv : 8 * size + 2 * kind + (if last = true then 1 else 0) < 16777216 := by split <;> lia
  obtain ⟨v, hv'⟩ : ∃ v, v = 8 * size + 2 * kind + (if last = true then 1 else 0) := ⟨_, rfl⟩
  have hh : bheadP.run (low v 3 ++ (body ++ s)) = .ok (last, kind, size) (low v 3).length := by
    rw [bheadP, bind_app (by rw [low_len]; exact little_run (low_len v 3)), le_low3 (by rw [hv']; exact hv)]
    have e1 : v / 2 % 4 = kind := by rw [hv']; split <;> lia
    have e2 : v / 8 = size := by rw [hv']; split <;> lia
    have e3 : decide (v % 2 = 1) = last := by
      rw [hv']
      cases last
      · simp; lia
      · simp; lia
    simp only [Pr.run, Out.add, e1, e2, e3, Nat.add_zero]
  unfold encB at *
  rw [List.append_assoc, ← hv', blkP, bind_app hh]
  simp only
  rw [if_neg (by lia), run_bind (take_run hb)]
  rw [← hb, List.drop_left]
  cases last with
  | true => simp [Pr.run, Out.add]
  | false => simp [add_add]
end
end
section

section
variable {N : Nat} {r s a b : List UInt8} {n m f k : Nat} {e : Exn}
def Pre (o : List UInt8) (bl : Bl) (k : Nat) : Prop := ∀ f s, (blkP (f + k) []).run (o ++ s) = ((blkP f bl).run s).add o.length
def Fin2 (o : List UInt8) (bl : Bl) (k : Nat) : Prop := ∀ f s, (blkP (f + k) []).run (o ++ s) = .ok bl o.length
theorem pre_nil : Pre [] [] 0 := fun f s => by simp [add_zero]
theorem pre_step {o : List UInt8} {bl : Bl} {kind size : Nat} {body : List UInt8} (h : Pre o bl k) (hk : kind < 3) (hs : size < 2097152) (hb : body.length = if kind = 1 then 1 else size) :
    Pre (o ++ encB false kind size body) (bl ++ [(kind, size)]) (k + 1) := fun f s => by
  rw [show f + (k + 1) = f + 1 + k by lia, List.append_assoc, h, blk_run hk hs hb]
  simp [add_add]
theorem fin_step {o : List UInt8} {bl : Bl} {kind size : Nat} {body : List UInt8} (h : Pre o bl k) (hk : kind < 3) (hs : size < 2097152) (hb : body.length = if kind = 1 then 1 else size) :
    Fin2 (o ++ encB true kind size body) (bl ++ [(kind, size)]) (k + 1) := fun f s => by
  rw [show f + (k + 1) = f + 1 + k by lia, List.append_assoc, h, blk_run hk hs hb]
  simp [Out.add]

/-! ## a header -/
def szOf (size : List UInt8) : Option Nat := if size = [] then none else some (le size + if size.length = 2 then 256 else 0)
def hdOf (x : Nat) (wide ident size : List UInt8) : Hd := ⟨if x / 32 % 2 = 1 then szOf size else some (win (octN wide)), szOf size, le ident, x / 4 % 2 = 1, x / 32 % 2 = 1⟩
theorem win_run {x : Nat} {wide : List UInt8} (hw : wide.length = 1 - x / 32 % 2) : (winP x).run (wide ++ s) = .ok (if x / 32 % 2 = 1 then 0 else win (octN wide)) wide.length := by
  unfold winP
  by_cases h : x / 32 % 2 = 1
  · have : wide = [] := List.eq_nil_of_length_eq_zero (by lia)
    subst this
    simp [h, Pr.run]
  · have h1 : wide.length = 1 := by lia
    rw [if_neg h, if_neg h, bind_app (by rw [h1]; exact oct_run h1)]
    simp [Pr.run, Out.add]
theorem ident_run {x : Nat} {ident : List UInt8} (hi : ident.length = icnt x) : (identP x).run (ident ++ s) = .ok (le ident) ident.length := by
  unfold identP
  by_cases h : icnt x = 0
  · have : ident = [] := List.eq_nil_of_length_eq_zero (by lia)
    subst this
    rw [if_pos h]; rfl
  · rw [if_neg h, hi]; exact little_run hi
theorem size_run {x : Nat} {size : List UInt8} (hi : size.length = scnt x) : (sizeP x).run (size ++ s) = .ok (szOf size) size.length := by
  unfold sizeP szOf
  by_cases h : scnt x = 0
  · have : size = [] := List.eq_nil_of_length_eq_zero (by lia)
    subst this
    rw [if_pos h]; rfl
  · have hne : size ≠ [] := by rintro rfl; exact h hi.symm
    rw [if_neg h, if_neg hne, bind_app (by rw [hi]; exact little_run hi), hi]
    by_cases h2 : scnt x = 2
    · simp [h2, Pr.run, Out.add]
    · simp [h2, Pr.run, Out.add]
theorem hdrQ_run {x : Nat} {wide ident size : List UInt8} (hx : x < 256) (h8 : x / 8 % 2 = 0) (hw : wide.length = 1 - x / 32 % 2) (hi : ident.length = icnt x) (hs : size.length = scnt x) :
    hdrQ.run ([UInt8.ofNat x] ++ (wide ++ (ident ++ (size ++ s)))) = .ok (hdOf x wide ident size) (1 + (wide.length + (ident.length + size.length))) := by
  have hox : octN [UInt8.ofNat x] = x := by
    simp [octN, UInt8.toNat_ofNat']; lia
  unfold hdrQ
  rw [bind_app (oct_run rfl), hox]
  rw [if_neg (by lia), bind_app (win_run hw), bind_app (ident_run hi), bind_app (size_run hs)]
  simp only [Pr.run, Out.add, hdOf]
  congr 1
  by_cases h : x / 32 % 2 = 1 <;> simp [h]
def frB : List UInt8 := [40, 181, 47, 253]
theorem le_frB : le frB = 4247762216 := by decide
theorem run_fr {first : Bool} : (measP N first).run (frB ++ s) = ((hdrQ.bind fun h => (blkP N []).bind (sumP h)).run s).add 4 := by
  rw [measP, run_get (a := frB) (n := 4) rfl, le_frB]
  unfold frameM
  rw [if_neg (fun q => q.2.1 rfl), if_neg (by decide)]
  unfold hdrM
  rw [if_neg (by decide), if_pos rfl]
theorem good_frame {x : Nat} {wide ident size body chk : List UInt8} {bl : Bl} (hk : k ≤ N) (hx : x < 256) (h8 : x / 8 % 2 = 0) (hw : wide.length = 1 - x / 32 % 2) (hi : ident.length = icnt x) (hs : size.length = scnt x)
    (hb : Fin2 body bl k) (hc : chk.length = 4 * (x / 4 % 2)) : Good N ⟨frB ++ ([UInt8.ofNat x] ++ (wide ++ (ident ++ (size ++ (body ++ chk))))), some (hdOf x wide ident size), bl⟩ := by
  unfold Good
  rw [run_fr, run_bind (hdrQ_run hx h8 hw hi hs)]
  have hd : ([UInt8.ofNat x] ++ (wide ++ (ident ++ (size ++ (body ++ chk))))).drop (1 + (wide.length + (ident.length + size.length))) = body ++ chk := by
    have : [UInt8.ofNat x] ++ (wide ++ (ident ++ (size ++ (body ++ chk)))) = ([UInt8.ofNat x] ++ (wide ++ (ident ++ size))) ++ (body ++ chk) := by simp
    rw [this]
    have hl : ([UInt8.ofNat x] ++ (wide ++ (ident ++ size))).length = 1 + (wide.length + (ident.length + size.length)) := by simp; lia
    rw [← hl, List.drop_left]
  rw [hd]
  have hbr := hb (N - k) chk
  rw [Nat.sub_add_cancel hk] at hbr
  rw [bind_app hbr]
  unfold sumP
  have hch : (hdOf x wide ident size).checked = decide (x / 4 % 2 = 1) := rfl
  by_cases h : x / 4 % 2 = 1
  · have h4 : chk.length = 4 := by lia
    rw [if_pos (by rw [hch]; exact decide_eq_true h)]
    have := bind_app (s := []) (g := fun _ => Pr.ret (some (hdOf x wide ident size), bl)) (by rw [h4]; exact little_run (s := []) h4)
    rw [List.append_nil] at this
    rw [this]
    simp [Pr.run, Out.add, frB]; lia
  · have h4 : chk = [] := List.eq_nil_of_length_eq_zero (by lia)
    subst h4
    rw [if_neg (by rw [hch]; simp [h])]
    simp [Pr.run, Out.add, frB]; lia
theorem good_skip {r : Nat} {load : List UInt8} (hr : r < 16) (hl : load.length < 4294967296) : Good N ⟨[UInt8.ofNat (80 + r), 42, 77, 24] ++ (low load.length 4 ++ load), none, []⟩ := by
  have h80 : (UInt8.ofNat (80 + r)).toNat = 80 + r := by simp [UInt8.toNat_ofNat']; lia
  have hm : isSk (le [UInt8.ofNat (80 + r), 42, 77, 24]) := by
    unfold isSk
    simp only [le, h80]
    have : (42 : UInt8).toNat = 42 ∧ (77 : UInt8).toNat = 77 ∧ (24 : UInt8).toNat = 24 := ⟨rfl, rfl, rfl⟩
    lia
  unfold Good
  simp only
  rw [measP, run_get (a := [UInt8.ofNat (80 + r), 42, 77, 24]) (n := 4) rfl]
  unfold frameM
  rw [if_neg (fun q => q.2.2 hm), if_pos hm]
  unfold skipM
  rw [if_pos hm]
  unfold skipQ
  have h1 : ((littleP 4).bind takeP).run (low load.length 4 ++ load) = .ok load (4 + load.length) := by
    rw [bind_app (by rw [low_len]; exact little_run (low_len _ 4)), le_low4 hl]
    have := take_run (a := load) (s := []) rfl
    rw [List.append_nil] at this
    rw [this, low_len]; rfl
  have h2 := run_bind (g := fun l => Pr.ret (le [UInt8.ofNat (80 + r), 42, 77, 24] % 16, l)) h1
  simp only [Pr.run, Out.add, Nat.add_zero] at h2
  have h3 := run_bind (g := fun _ => (Pr.ret (none, []) : Pr (Option Hd × Bl))) h2
  rw [h3]
  simp [Pr.run, Out.add, low_len]; lia
end
end
theorem blk_ge {n m : Nat} {acc bl : Bl} {r : List UInt8} (h : (blkP n acc).run r = .ok bl m) : 3 ≤ m := by
  cases n with
  | zero => exact nomatch h
  | succ n =>
    have h : (if 3 ≤ r.length then _ else _) = Out.ok bl m := h
    split at h
    · obtain ⟨k, _, rfl⟩ := add_ok h
      exact Nat.le_add_right _ _
    · exact nomatch h
theorem fin_ge {o : List UInt8} {bl : Bl} {k : Nat} (h : Fin2 o bl k) : 3 ≤ o.length := blk_ge (h 0 [])
abbrev IBlk := { x : J × List UInt8 // x.2.length ≤ 100000 }
abbrev cBlk : PF := sp (fun x : IBlk => ([.hl 0, .bytes x.1.2], [jm x.1.1])) fun x Q _ => ∀ o bl k j, Fin2 o bl k → k ≤ 2 → o.length ≤ x.1.2.length + 100 → Q (.tup [.bytes o, blsD bl]) [jm j]
/-- before a turn -/
structure BS (n many i : Nat) where
  j : J
  o : List UInt8
  bl : Bl
  ad : List D
  ha : ad = bl.map blD
  hb : ad.length = i
  hp : i < many → Pre o bl i
  hf : i = many → Fin2 o bl i
  hl : o.length ≤ 10 * i + if i = 0 then 0 else n
  x1 : Option D
  x2 : Option D
  x3 : Option D
  x4 : Option D
theorem last_eq {i many : Nat} (h : i < many) : negB false (eqI (.ofNat i) (Int.ofNat many - 1)) = decide (i + 1 = many) := by
  rw [show Int.ofNat many - 1 = Int.ofNat (many - 1) from (Int.ofNat_sub (Nat.succ_le_of_lt (Nat.lt_of_le_of_lt (Nat.zero_le _) h))).symm]
  exact decide_eq_decide.mpr (by lia)
theorem enc_eq {o body : List UInt8} {size kind i many : Nat} (h : i < many) : o ++ low (8 * size + 2 * kind + b2n (negB false (eqI (.ofNat i) (Int.ofNat many - 1)))) 3 ++ body = o ++ encB (decide (i + 1 = many)) kind size body := by
  rw [last_eq h, List.append_assoc]
  cases decide (i + 1 = many) <;> rfl
def BS.next {n many i : Nat} (s : BS n many i) (hi : i < many) (j : J) {kind size : Nat} {body o : List UInt8} (he : o = s.o ++ encB (decide (i + 1 = many)) kind size body) (hk : kind < 3) (hs : size < 2097152) (hb : body.length = if kind = 1 then 1 else size) (hb3 : body.length ≤ 3 + if i = 0 then n else 0) (x1 x2 x3 x4 : Option D) : BS n many (i + 1) where
  j := j
  o := o
  bl := s.bl ++ [(kind, size)]
  ad := s.ad ++ [blD (kind, size)]
  ha := by rw [s.ha, List.map_append]; rfl
  hb := len_snoc s.hb
  hp := fun h => by rw [he, decide_eq_false (Nat.ne_of_lt h)]; exact pre_step (s.hp hi) hk hs hb
  hf := fun h => by rw [he, decide_eq_true h]; exact fin_step (s.hp hi) hk hs hb
  hl := by
    have h := s.hl
    rw [he, List.length_append, encB, List.length_append, low_len, if_neg (Nat.succ_ne_zero i)]
    split at h <;> split at hb3 <;> lia
  x1 := x1
  x2 := x2
  x3 := x3
  x4 := x4
theorem BS.len {n many i : Nat} (s : BS n many i) (h : i < many) (hm : many ≤ 2) (hn : n ≤ 100000) : s.o.length ≤ 200000 := by
  have := s.hl
  split at this <;> lia
theorem BS.len' {n many : Nat} (s : BS n many many) (h : 0 < many) (hm : many ≤ 2) : s.o.length ≤ n + 100 := by
  have := s.hl
  rw [if_neg (Nat.ne_of_gt h)] at this
  lia
theorem l_blocks (O : ((GG prog w h₀ mg mb tabs tq)).Ok) (h__law_take : FK (GG prog w h₀ mg mb tabs tq) 2 377 cTk) (h__law_some : FK (GG prog w h₀ mg mb tabs tq) 4 382 cSome) (h__law_low : FK (GG prog w h₀ mg mb tabs tq) 2 387 cLow) : FK (GG prog w h₀ mg mb tabs tq) 5 399 cBlk :=
  FV_ct (LX O [⟨377, .fv 2 _ h__law_take⟩, ⟨382, .fv 4 _ h__law_some⟩, ⟨387, .fv 2 _ h__law_low⟩]) (defS 2 [] 7 (wSeq (wTg (gTS [4, 3, 2]) (tTup (l1 (tD (.bytes [])) (l1 (tNewL l0) (l1 (t2 (tD (.int 1)) (tCall (l1 (tVar 0) (l1 (tD (.int 2)) l0)) cTk) tPlus) l0))))) (wSeq (wFor (iRange (tVar 4)) (gN 5) (wSeq (wTg (gTS [7, 6]) (tTup (l1 (tCall (l1 (tVar 0) (l1 (tD (.int 3)) l0)) cTk) (l1 (tCall (l1 (tVar 0) (l1 (tD (.int 4)) l0)) cTk) l0)))) (wSeq (wSet 8 (tCall (l1 (tVar 0) (l1 (eJ (tIf (tTrue (t2 (tVar 6) (tD (.int 1)) oEq)) (tD (.int 1)) (tVar 7))) l0)) cSome)) (wSeq (wJ (wIf (tAnd (tTrue (t2 (tVar 6) (tD (.int 1)) oEq)) (tAnd (tTrue (t2 (tCall (l1 (tVar 0) (l1 (tD (.int 2)) l0)) cTk) (tD (.int 1)) oEq)) (tB true))) (wSeq (wSet 7 (t2 (t2 (t2 (tD (.int 2)) (tD (.int 21)) oPow) (tD (.int 1)) oSub) (tVar 7) oSub)) wSkip) wSkip)) (wSeq (wJ (wIf (tAnd (tTrue (t2 (tVar 6) (tD (.int 1)) tNeq)) (tAnd (tTrue (t2 (tVar 5) (tD (.int 0)) oEq)) (tAnd (tTrue (t2 (tVar 1) (tD (.bytes [])) tNeq)) (tB true)))) (wSeq (wTg (gTS [7, 8]) (tTup (l1 (tVar 1) (l1 (tBi (l1 (tVar 1) l0) tLen) l0)))) wSkip) wSkip)) (wSeq (wSet 2 (t2 (t2 (tVar 2) (tCall (l1 (t2 (t2 (t2 (tD (.int 8)) (tVar 7) oMulL) (t2 (tD (.int 2)) (tVar 6) oMulL) tPlus) (tBi (l1 (t2 (tVar 5) (t2 (tVar 4) (tD (.int 1)) oSub) oEq) l0) tIntB) tPlus) (l1 (tD (.int 3)) l0)) cLow) tPlus) (tVar 8) tPlus)) (wSeq (wExp (tApp (tVar 3) (tTup (l1 (tVar 6) (l1 (tVar 7) l0))))) wSkip))))))) (wSeq (wRet (tTup (l1 (tVar 2) (l1 (tVar 3) l0)))) wSkip)))) [] [] (by with_unfolding_all rfl) (.simple rfl) (fun _ _ _ _ _ => .nil) fun x Q Ex h => by
    walk_at "wh"
    refine .mk (⟨(x.1.1, 2), rfl⟩ : ITk) fun r j hr => ?_
    have hr2 : 1 + r ≤ 2 := Nat.add_le_add_left (Nat.le_of_lt_succ hr) 1
    walk_at "wh"
    refine ⟨Nat.le_trans hr2 (by decide), ?_⟩
    refine for_range (σ := BS x.1.2.length (1 + r)) (fun i s => ([some (.hl 0), some (.bytes x.1.2), some (.bytes s.o), some (.hl 1), some (nD (1 + r)), s.x1, s.x2, s.x3, s.x4], [jm s.j, .list s.ad])) (fun i s C hi hC => ?_) (fun s => ?_) ⟨j, [], [], [], rfl, rfl, fun _ => pre_nil, fun q => absurd (q.trans (Nat.add_comm 1 r)) (nomatch ·), Nat.zero_le _, none, none, none, none⟩
    · have hol := s.len hi hr2 x.2
      walk_at "wh"
      refine .mk (⟨(s.j, 3), rfl⟩ : ITk) fun kind j hk => ?_
      walk_at "wh"
      refine .mk (⟨(j, 4), rfl⟩ : ITk) fun size j hs => ?_
      have hk : kind < 3 := hk
      have hs : size < 4 := hs
      walk_at "wh"
      refine join_e (σ := { n : Nat // n = if kind = 1 then 1 else size }) (fun n => (nD n.1, [jm j, .list s.ad])) (fun C hC => ?_) (fun n => ?_)
      · walk_at "wh"
        refine br_of (fun e => ?_) (fun e => ?_)
        · walk_at "wh"
          exact hC ⟨1, (if_pos (eq_t e)).symm⟩
        · walk_at "wh"
          exact hC ⟨size, (if_neg (eq_f e)).symm⟩
      have hn3 : n.1 ≤ 3 := by rw [n.2]; split; exact (by decide); exact Nat.le_of_lt_succ hs
      walk_at "wh"
      refine .mk (⟨(j, n.1), Nat.le_trans hn3 (by decide)⟩ : ISome) fun body j hb => ?_
      walk_at "wh"
      refine join (σ := { s : Nat × J // s.1 < 2097152 ∧ body.length = if kind = 1 then 1 else s.1 }) (fun z => ([some (.hl 0), some (.bytes x.1.2), some (.bytes s.o), some (.hl 1), some (nD (1 + r)), some (nD i), some (nD kind), some (nD z.1.1), some (.bytes body)], [jm z.1.2, .list s.ad])) (fun C hC => ?_) (fun z => ?_)
      · have hsz : size < 2097152 ∧ body.length = if kind = 1 then 1 else size := ⟨Nat.lt_trans hs (by decide), hb.trans n.2⟩
        walk_at "wh"
        refine br_of (fun e => ?_) (fun e => ?_)
        · walk_at "wh"
          refine .mk (⟨(j, 2), rfl⟩ : ITk) fun c j hc => ?_
          walk_at "wh"
          refine br_of (fun e1 => ?_) (fun e1 => ?_)
          · walk_at "wh"
            refine at_left (Q := fun z => C [_, _, _, _, _, _, _, some (.int z), _] _) (a := 2097151) (b := size) (Nat.le_trans (Nat.le_of_lt hs) (by decide)) ?_
            exact hC ⟨(2097151 - size, j), Nat.lt_of_le_of_lt (Nat.sub_le _ _) (by decide), by rw [hsz.2, if_pos (eq_t e), if_pos (eq_t e)]⟩
          · walk_at "wh"
            exact hC ⟨(size, j), hsz⟩
        · walk_at "wh"
          exact hC ⟨(size, j), hsz⟩
      have hb3 : body.length ≤ 3 + if i = 0 then x.1.2.length else 0 := Nat.le_trans (Nat.le_trans (Nat.le_of_eq hb) hn3) (Nat.le_add_right _ _)
      walk_at "wh"
      refine join (σ := { s : Nat × List UInt8 // s.1 < 2097152 ∧ (s.2.length = if kind = 1 then 1 else s.1) ∧ s.2.length ≤ 3 + if i = 0 then x.1.2.length else 0 }) (fun y => ([some (.hl 0), some (.bytes x.1.2), some (.bytes s.o), some (.hl 1), some (nD (1 + r)), some (nD i), some (nD kind), some (nD y.1.1), some (.bytes y.1.2)], [jm z.1.2, .list s.ad])) (fun C hC => ?_) (fun y => ?_)
      · walk_at "wh"
        refine br_of (fun e => ?_) (fun e => ?_)
        · walk_at "wh"
          refine br_of (fun e1 => ?_) (fun e1 => ?_)
          · walk_at "wh"
            refine br_of (fun e2 => ?_) (fun e2 => ?_)
            · walk_at "gd"
              · exact ble_of (Nat.le_trans x.2 (by decide))
              walk_at "wh"
              exact hC ⟨(x.1.2.length, x.1.2), Nat.lt_of_le_of_lt x.2 (by decide), (if_neg (ne_t e)).symm, by rw [if_pos (eq_t e1)]; exact Nat.le_add_left _ _⟩
            · walk_at "wh"
              exact hC ⟨(z.1.1, body), z.2.1, z.2.2, hb3⟩
          · walk_at "wh"
            exact hC ⟨(z.1.1, body), z.2.1, z.2.2, hb3⟩
        · walk_at "wh"
          exact hC ⟨(z.1.1, body), z.2.1, z.2.2, hb3⟩
      have hyl : y.1.2.length ≤ 200000 := Nat.le_trans y.2.2.2 (by have := x.2; split <;> lia)
      walk_at "wh"
      refine .mk (⟨8 * y.1.1 + 2 * kind + b2n (negB false (eqI (.ofNat i) (Int.ofNat (1 + r) - 1))), 3, by decide⟩ : ILow) ?_
      walk_at "gd"
      · exact cat_ok (Nat.le_trans hol (by decide)) (Nat.le_trans (Nat.le_of_eq (low_len _ 3)) (by decide))
      walk_at "gd"
      · exact cat_ok (by rw [List.length_append, low_len]; exact Nat.le_trans (Nat.add_le_add_right hol 3) (show 200000 + 3 ≤ 8000000 by decide)) (Nat.le_trans hyl (by decide))
      walk_at "wh"
      exact ⟨Nat.le_trans (Nat.le_of_eq s.hb) (Nat.le_trans (Nat.le_of_lt hi) (Nat.le_trans hr2 (by decide))), hC (s.next hi z.1.2 (enc_eq hi) hk y.2.1 y.2.2.1 y.2.2.2 _ _ _ _)⟩
    · walk_at "wh"
      exact at_ (P := fun l => Q (.tup [.bytes s.o, .list l]) [jm s.j]) s.ha (h s.o s.bl (1 + r) s.j (s.hf rfl) hr2 (s.len' (Nat.lt_of_lt_of_le Nat.one_pos (Nat.le_add_right _ _)) hr2))
abbrev cFrame (N : Nat) : PF := sp (fun x : IBlk => ([.hl 0, .bytes x.1.2], [jm x.1.1])) fun x Q _ => ∀ (f : Fr) j, Good N f → 8 ≤ f.body.length → f.body.length ≤ x.1.2.length + 200 → Q f.T [jm j]
abbrev mk5 (sized lone r checked named : Nat) : Nat := 64 * sized + 32 * lone + 16 * r + 4 * checked + named
def mkP (sized lone r checked named x : Nat) : Bool := decide (x < 256) && (decide (x / 8 % 2 = 0) && (decide (x / 32 % 2 = lone) && (decide (x / 64 = sized) && (decide (x &&& 3 = named) && (decide (x / 4 % 2 = checked) && decide (b2n (!decide (x &&& 32 = 0)) = lone))))))
theorem mark_all : ∀ sized < 4, ∀ lone < 2, ∀ r < 2, ∀ checked < 2, ∀ named < 4, mkP sized lone r checked named (mk5 sized lone r checked named) = true := by decide +kernel
theorem mark_ok {sized lone r checked named x : Nat} (h1 : sized < 4) (h2 : lone < 2) (h3 : r < 2) (h4 : checked < 2) (h5 : named < 4) (hx : mk5 sized lone r checked named = x) : x < 256 ∧ x / 8 % 2 = 0 ∧ x / 32 % 2 = lone ∧ x / 64 = sized ∧ x &&& 3 = named ∧ x / 4 % 2 = checked ∧ b2n (!decide (x &&& 32 = 0)) = lone := by
  have a0 := hx ▸ mark_all sized h1 lone h2 r h3 checked h4 named h5
  have a1 := and2 a0
  have a2 := and2 a1.2
  have a3 := and2 a2.2
  have a4 := and2 a3.2
  have a5 := and2 a4.2
  have a6 := and2 a5.2
  exact ⟨of_decide_eq_true a1.1, of_decide_eq_true a2.1, of_decide_eq_true a3.1, of_decide_eq_true a4.1, of_decide_eq_true a5.1, of_decide_eq_true a6.1, of_decide_eq_true a6.2⟩
theorem frB_octs {x : Nat} (h : x < 256) : octsI [40, 181, 47, 253, .ofNat x] = some (frB ++ [UInt8.ofNat x]) := octs_cons (n := 40) (by decide) (octs_cons (n := 181) (by decide) (octs_cons (n := 47) (by decide) (octs_cons (n := 253) (by decide) (octs_cons h rfl))))
theorem sz_eq {size : List UInt8} (h : ¬ size = []) : szOf size = some (le size + 256 * b2n (negB false (eqI (.ofNat size.length) 2))) := by
  unfold szOf
  rw [if_neg h]
  by_cases h2 : size.length = 2
  · rw [if_pos h2, h2]; rfl
  · rw [if_neg h2, show negB false (eqI (.ofNat size.length) 2) = false from decide_eq_false h2]; rfl
theorem fr_ge {a b c d e : Nat} (h : 3 ≤ d) : 8 ≤ 4 + (1 + (a + (b + (c + (d + e))))) := by lia
theorem fr_le {a b c d e n : Nat} (h1 : a ≤ 1) (h2 : b ≤ 4) (h3 : c ≤ 8) (h4 : d ≤ n + 100) (h5 : e ≤ 4) : 4 + (1 + (a + (b + (c + (d + e))))) ≤ n + 200 := by lia
theorem fr_eq {m : Nat} {wide ident size body chk : List UInt8} {bl : Bl} {w n : Option Nat} {b1 b2 : Bool} (hw : (hdOf m wide ident size).window = w) (hn : szOf size = n) (h1 : b1 = decide (m / 4 % 2 = 1)) (h2 : b2 = decide (m / 32 % 2 = 1)) :
    (⟨frB ++ [UInt8.ofNat m] ++ wide ++ ident ++ size ++ body ++ chk, some ⟨w, n, le ident, b1, b2⟩, bl⟩ : Fr) = ⟨frB ++ ([UInt8.ofNat m] ++ (wide ++ (ident ++ (size ++ (body ++ chk))))), some (hdOf m wide ident size), bl⟩ := by
  subst hw hn h1 h2
  rw [List.append_assoc, List.append_assoc, List.append_assoc, List.append_assoc, List.append_assoc]; rfl
theorem one_dec {n m : Nat} (h : n = m) : negB false (eqI (.ofNat m) 1) = decide (n = 1) := by subst h; rfl
theorem skip_len {a b : Nat} (h : a ≤ b + 10) : 4 + (4 + a) ≤ b + 200 := by lia
theorem l_frame {N : Nat} (hN : 2 ≤ N) (O : ((GG prog w h₀ mg mb tabs tq)).Ok) (h__law_take : FK (GG prog w h₀ mg mb tabs tq) 2 377 cTk) (h__law_some : FK (GG prog w h₀ mg mb tabs tq) 4 382 cSome) (h__law_low : FK (GG prog w h₀ mg mb tabs tq) 2 387 cLow) (h__law_sum : FK (GG prog w h₀ mg mb tabs tq) 2 392 cSum) (h__law_blocks : FK (GG prog w h₀ mg mb tabs tq) 5 399 cBlk) : FK (GG prog w h₀ mg mb tabs tq) 6 406 ((cFrame N)) :=
  FV_ct (LX O [⟨377, .fv 2 _ h__law_take⟩, ⟨382, .fv 4 _ h__law_some⟩, ⟨387, .fv 2 _ h__law_low⟩, ⟨392, .fv 2 _ h__law_sum⟩, ⟨399, .fv 5 _ h__law_blocks⟩]) (defS 2 [] 15 (wSeq (wIf (tTrue (t2 (tCall (l1 (tVar 0) (l1 (tD (.int 3)) l0)) cTk) (tD (.int 0)) oEq)) (wSeq (wSet 2 (eJ (tIf (tTrue (t2 (tVar 1) (tD (.bytes [])) tNeq)) (tVar 1) (tCall (l1 (tVar 0) (l1 (tCall (l1 (tVar 0) (l1 (tD (.int 4)) l0)) cTk) l0)) cSome)))) (wSeq (wRet (tTup (l1 (t2 (t2 (tBi (l1 (tList (l1 (t2 (tD (.int 80)) (tCall (l1 (tVar 0) (l1 (tD (.int 16)) l0)) cTk) tPlus) (l1 (tD (.int 42)) (l1 (tD (.int 77)) (l1 (tD (.int 24)) l0))))) l0) tBytes) (tCall (l1 (tBi (l1 (tVar 2) l0) tLen) (l1 (tD (.int 4)) l0)) cLow) tPlus) (tVar 2) tPlus) (l1 (tD .none) (l1 (tList l0) l0))))) wSkip)) wSkip) (wSeq (wTg (gT [3, 4, 5, 6]) (tTup (l1 (tCall (l1 (tVar 0) (l1 (tD (.int 2)) l0)) cTk) (l1 (tCall (l1 (tVar 0) (l1 (tD (.int 4)) l0)) cTk) (l1 (tCall (l1 (tVar 0) (l1 (tD (.int 4)) l0)) cTk) (l1 (tCall (l1 (tVar 0) (l1 (tD (.int 2)) l0)) cTk) l0)))))) (wSeq (wSet 7 (t2 (t2 (t2 (t2 (t2 (tD (.int 64)) (tVar 4) oMulL) (t2 (tD (.int 32)) (tVar 3) oMulL) tPlus) (t2 (tD (.int 16)) (tCall (l1 (tVar 0) (l1 (tD (.int 2)) l0)) cTk) oMulL) tPlus) (t2 (tD (.int 4)) (tVar 6) oMulL) tPlus) (tVar 5) tPlus)) (wSeq (wJ (wSet 8 (tCall (l1 (tVar 0) (l1 (t2 (tD (.int 1)) (tVar 3) oSub) l0)) cSome))) (wSeq (wSet 9 (tCall (l1 (tVar 0) (l1 (t2 (tList (l1 (tD (.int 0)) (l1 (tD (.int 1)) (l1 (tD (.int 2)) (l1 (tD (.int 4)) l0))))) (tVar 5) tItem) l0)) cSome)) (wSeq (wSet 10 (tCall (l1 (tVar 0) (l1 (t2 (tList (l1 (tVar 3) (l1 (tD (.int 2)) (l1 (tD (.int 4)) (l1 (tD (.int 8)) l0))))) (tVar 4) tItem) l0)) cSome)) (wSeq (wSet 11 (eJ (tIf (tTrue (t2 (tVar 10) (tD (.bytes [])) oEq)) (tD .none) (t2 (tCall (l1 (tVar 10) l0) cSum) (t2 (tD (.int 256)) (tBi (l1 (t2 (tBi (l1 (tVar 10) l0) tLen) (tD (.int 2)) oEq) l0) tIntB) oMulL) tPlus)))) (wSeq (wSet 12 (tVar 11)) (wSeq (wJ (wIf (tTrue (t2 (tVar 3) (tD (.int 0)) oEq)) (wSeq (wSet 13 (t2 (tD (.int 2)) (t2 (tD (.int 10)) (t2 (t2 (tVar 8) (tD (.int 0)) tItem) (tD (.int 8)) oDiv) tPlus) oPow)) (wSeq (wSet 12 (t2 (tVar 13) (t2 (t2 (tVar 13) (tD (.int 8)) oDiv) (t2 (t2 (tVar 8) (tD (.int 0)) tItem) (tD (.int 8)) oMod) oMul) tPlus)) wSkip)) wSkip)) (wSeq (wTg (gT [14, 15]) (tCall (l1 (tVar 0) (l1 (tVar 1) l0)) cBlk)) (wSeq (wSet 16 (t2 (t2 (t2 (t2 (t2 (tBi (l1 (tList (l1 (tD (.int 40)) (l1 (tD (.int 181)) (l1 (tD (.int 47)) (l1 (tD (.int 253)) (l1 (tVar 7) l0)))))) l0) tBytes) (tVar 8) tPlus) (tVar 9) tPlus) (tVar 10) tPlus) (tVar 14) tPlus) (tCall (l1 (tVar 0) (l1 (t2 (tD (.int 4)) (tVar 6) oMulL) l0)) cSome) tPlus)) (wSeq (wRet (tTup (l1 (tVar 16) (l1 (tTup (l1 (tVar 12) (l1 (tVar 11) (l1 (tCall (l1 (tVar 9) l0) cSum) (l1 (t2 (tVar 6) (tD (.int 1)) oEq) (l1 (t2 (tVar 3) (tD (.int 1)) oEq) l0)))))) (l1 (tVar 15) l0))))) wSkip))))))))))))) [] [] (by with_unfolding_all rfl) (.simple rfl) (fun _ _ _ _ _ => .nil) fun x Q Ex h => by
    walk_at "wh"
    refine .mk (⟨(x.1.1, 3), rfl⟩ : ITk) fun c j hc => ?_
    walk_at "wh"
    refine br_of (fun e => ?_) (fun e => ?_)
    · walk_at "wh"
      refine join_e (σ := { s : List UInt8 × J // s.1.length ≤ x.1.2.length + 10 }) (fun s => (.bytes s.1.1, [jm s.1.2])) (fun C hC => ?_) (fun s => ?_)
      · walk_at "wh"
        refine br_of (fun e => ?_) (fun e => ?_)
        · walk_at "wh"
          exact hC ⟨(x.1.2, j), Nat.le_add_right _ _⟩
        · walk_at "wh"
          refine .mk (⟨(j, 4), rfl⟩ : ITk) fun y j hy => ?_
          have hy : y < 4 := hy
          walk_at "wh"
          refine .mk (⟨(j, y), Nat.le_trans (Nat.le_of_lt hy) (by decide)⟩ : ISome) fun l j hl => ?_
          walk_at "wh"
          exact hC ⟨(l, j), Nat.le_trans (Nat.le_of_eq hl) (Nat.le_trans (Nat.le_of_lt hy) (Nat.le_trans (by decide) (Nat.le_add_left 10 _)))⟩
      have hll : s.1.1.length ≤ 200000 := Nat.le_trans s.2 (Nat.le_trans (Nat.add_le_add_right x.2 10) (by decide))
      walk_at "wh"
      refine .mk (⟨(s.1.2, 16), rfl⟩ : ITk) fun r j hr => ?_
      have hr : r < 16 := hr
      walk_at "wh"
      refine need_of (octs_cons (Nat.lt_of_lt_of_le (Nat.add_lt_add_left hr 80) (by decide)) rfl) ?_
      walk_at "gd"
      · exact ble_of (Nat.le_trans hll (by decide))
      walk_at "wh"
      refine .mk (⟨s.1.1.length, 4, by decide⟩ : ILow) ?_
      walk_at "gd"
      · exact cat_ok (by rw [List.length_append, low_len]; exact (by decide : 4 + 4 ≤ 8000000)) (Nat.le_trans hll (by decide))
      walk_at "wh"
      refine at_ (P := fun l => Q (.tup [.bytes l, .none, .list []]) [jm j]) (List.append_assoc _ _ _) ?_
      refine h ⟨_, none, []⟩ j (good_skip hr (Nat.lt_of_le_of_lt hll (by decide))) ?_ ?_
      · exact Nat.le_trans (by decide : 8 ≤ 4 + 4) (by rw [List.length_append, List.length_append, low_len]; exact Nat.add_le_add_left (Nat.le_add_right 4 _) 4)
      · rw [List.length_append, List.length_append, low_len]; exact skip_len s.2
    walk_at "wh"
    refine .mk (⟨(j, 2), rfl⟩ : ITk) fun lone j hlone => ?_
    walk_at "wh"
    refine .mk (⟨(j, 4), rfl⟩ : ITk) fun sized j hsized => ?_
    walk_at "wh"
    refine .mk (⟨(j, 4), rfl⟩ : ITk) fun named j hnamed => ?_
    walk_at "wh"
    refine .mk (⟨(j, 2), rfl⟩ : ITk) fun checked j hchecked => ?_
    walk_at "wh"
    refine .mk (⟨(j, 2), rfl⟩ : ITk) fun r j hr => ?_
    walk_at "wh"
    have h1 : lone ≤ 1 := Nat.le_of_lt_succ hlone
    refine join (σ := { s : Nat × List UInt8 × J // mk5 sized lone r checked named = s.1 ∧ s.2.1.length = 1 - lone }) (fun s => ([some (.hl 0), some (.bytes x.1.2), none, some (nD lone), some (nD sized), some (nD named), some (nD checked), some (nD s.1.1), some (.bytes s.1.2.1), none, none, none, none, none, none, none, none], [jm s.1.2.2])) (fun C hC => ?_) (fun s => ?_)
    · walk_at "wh"
      refine at_left (Q := fun z => Ct _ _ _ _ [_, .int z] _) (a := 1) (b := lone) h1 ?_
      refine .mk (⟨(j, 1 - lone), Nat.le_trans (Nat.sub_le _ _) (by decide)⟩ : ISome) fun wide j hwide => ?_
      walk_at "wh"
      exact hC ⟨(_, wide, j), rfl, hwide⟩
    obtain ⟨⟨m, wide, j⟩, hm, hwide⟩ := s
    obtain ⟨m1, m2, m3, m4, m5, m6, m7⟩ := mark_ok hsized hlone hr hchecked hnamed hm
    walk_at "wh"
    refine need_of (m5 ▸ icnt_at m) ?_
    walk_at "wh"
    refine .mk (⟨(j, icnt m), Nat.le_trans (icnt_le m) (by decide)⟩ : ISome) fun ident j hident => ?_
    walk_at "wh"
    refine need_of (a := nD (scnt m)) (by have := scnt_at m1; rw [m4, m7] at this; exact this) ?_
    walk_at "wh"
    refine .mk (⟨(j, scnt m), Nat.le_trans (scnt_le m m1) (by decide)⟩ : ISome) fun size j hsize => ?_
    have hsz : size.length ≤ 8 := Nat.le_trans (Nat.le_of_eq hsize) (scnt_le m m1)
    walk_at "wh"
    refine join_e (σ := { n : Option Nat // szOf size = n }) (fun n => (onD n.1, [jm j])) (fun C hC => ?_) (fun n => ?_)
    · walk_at "wh"
      refine br_of (fun e => ?_) (fun e => ?_)
      · walk_at "wh"
        exact hC ⟨none, if_pos (of_decide_eq_true e)⟩
      · walk_at "wh"
        refine .mk (⟨size, Nat.le_trans hsz (by decide)⟩ : ISum) ?_
        walk_at "gd"
        · exact ble_of (Nat.le_trans hsz (by decide))
        walk_at "wh"
        exact hC ⟨some _, sz_eq (of_decide_eq_false e)⟩
    walk_at "wh"
    refine join (σ := { s : Option D × Option Nat // (hdOf m wide ident size).window = s.2 }) (fun s => ([some (.hl 0), some (.bytes x.1.2), none, some (nD lone), some (nD sized), some (nD named), some (nD checked), some (nD m), some (.bytes wide), some (.bytes ident), some (.bytes size), some (onD n.1), some (onD s.1.2), s.1.1, none, none, none], [jm j])) (fun C hC => ?_) (fun w => ?_)
    · walk_at "wh"
      refine br_of (fun e => ?_) (fun e => ?_)
      · have hl0 : lone = 0 := eq_t e
        have hw1 : wide.length = 1 := by rw [hwide, hl0]
        have hy : octN wide < 256 := UInt8.toNat_lt _
        walk_at "wh"
        refine ⟨Nat.lt_of_lt_of_eq Nat.one_pos hw1.symm, Nat.le_trans (Nat.le_of_eq hw1) (by decide), ?_⟩
        walk_at "gd"
        · exact and_i (ble_of (Nat.le_trans (Nat.add_le_add_left (Nat.le_trans (Nat.div_le_self _ 8) (Nat.le_of_lt hy)) 10) (by decide))) rfl
        walk_at "wh"
        refine ⟨Nat.lt_of_lt_of_eq Nat.one_pos hw1.symm, Nat.le_trans (Nat.le_of_eq hw1) (by decide), ?_⟩
        walk_at "gd"
        · exact or_l (ble_of (Nat.le_trans (Nat.mod_le _ 8) (Nat.le_trans (Nat.le_of_lt hy) (by decide))))
        walk_at "wh"
        exact hC ⟨(_, some (win (octN wide))), if_neg (by rw [m3, hl0]; decide)⟩
      · walk_at "wh"
        have hl1 : ¬ lone = 0 := eq_f e
        exact hC ⟨(none, n.1), (if_pos (by rw [m3]; lia)).trans n.2⟩
    walk_at "wh"
    refine .mk (⟨(j, x.1.2), x.2⟩ : IBlk) fun body bl k j hf hk hbl => ?_
    have hbl' : body.length ≤ 200000 := Nat.le_trans hbl (Nat.le_trans (Nat.add_le_add_right x.2 100) (by decide))
    walk_at "wh"
    refine need_of (frB_octs m1) ?_
    have hwl : wide.length ≤ 1 := Nat.le_trans (Nat.le_of_eq hwide) (Nat.sub_le _ _)
    have hil : ident.length ≤ 4 := Nat.le_trans (Nat.le_of_eq hident) (icnt_le m)
    have l1 : (frB ++ [UInt8.ofNat m] ++ wide).length ≤ 6 := by rw [List.length_append]; exact Nat.add_le_add_left hwl 5
    have l2 : (frB ++ [UInt8.ofNat m] ++ wide ++ ident).length ≤ 10 := by rw [List.length_append]; exact Nat.add_le_add l1 hil
    have l3 : (frB ++ [UInt8.ofNat m] ++ wide ++ ident ++ size).length ≤ 18 := by rw [List.length_append]; exact Nat.add_le_add l2 hsz
    have l4 : (frB ++ [UInt8.ofNat m] ++ wide ++ ident ++ size ++ body).length ≤ 200018 := by rw [List.length_append]; exact Nat.le_trans (Nat.add_le_add l3 hbl') (show 18 + 200000 ≤ 200018 by decide)
    walk_at "gd"
    · exact cat_ok (show 5 ≤ 8000000 by decide) (Nat.le_trans hwl (by decide))
    walk_at "gd"
    · exact cat_ok (Nat.le_trans l1 (by decide)) (Nat.le_trans hil (by decide))
    walk_at "gd"
    · exact cat_ok (Nat.le_trans l2 (by decide)) (Nat.le_trans hsz (by decide))
    walk_at "gd"
    · exact cat_ok (Nat.le_trans l3 (by decide)) (Nat.le_trans hbl' (by decide))
    have hc1 : 4 * checked ≤ 4 := Nat.mul_le_mul_left 4 (Nat.le_of_lt_succ hchecked)
    walk_at "wh"
    refine .mk (⟨(j, 4 * checked), Nat.le_trans hc1 (by decide)⟩ : ISome) fun chk j hchk => ?_
    have hcl : chk.length ≤ 4 := Nat.le_trans (Nat.le_of_eq hchk) hc1
    walk_at "gd"
    · exact cat_ok (Nat.le_trans l4 (by decide)) (Nat.le_trans hcl (by decide))
    walk_at "wh"
    refine .mk (⟨ident, Nat.le_trans hil (by decide)⟩ : ISum) ?_
    walk_at "wh"
    refine need_of (frz_cl _ (clD_frT ⟨_, some ⟨w.1.2, n.1, le ident, _, _⟩, bl⟩)) ?_
    refine at_ (P := fun f => Q (Fr.T f) [jm j]) (fr_eq w.2 n.2 (one_dec m6) (one_dec m3)) (h _ j (good_frame (Nat.le_trans hk hN) m1 m2 (hwide.trans (congrArg (1 - ·) m3.symm)) hident hsize hf (hchk.trans (congrArg (4 * ·) m6.symm))) ?_ ?_)
    · have := fin_ge hf
      rw [List.length_append, List.length_append, List.length_append, List.length_append, List.length_append, List.length_append]
      exact fr_ge this
    · rw [List.length_append, List.length_append, List.length_append, List.length_append, List.length_append, List.length_append]
      exact fr_le hwl hil hsz hbl hcl
section

section
variable {N : Nat} {r s rest : List UInt8} {n m f k : Nat} {e : Exn} {v : Option Hd × Bl}
theorem wdOk_none (h : rest ≠ []) : wdOk N rest .none := ⟨h, fun _ _ _ => .inl rfl⟩
theorem wdOk_err (h : rest ≠ []) (hr : (measP N true).run rest = .err e) : wdOk N rest (.str (word e)) := ⟨h, fun fs w hS => by
  obtain ⟨rfl, rfl⟩ := hS.det (.err h hr)
  exact .inr rfl⟩
theorem wdOk_not (h : rest ≠ []) (hb : begins rest = false) : wdOk N rest (.str (word (otherE rest))) := wdOk_err h (meas_not hb)
theorem wdOk_ok (hr : (measP N true).run rest = .ok v rest.length) : wdOk N rest (.str "") := by
  refine ⟨fun q => ?_, fun fs w hS => ?_⟩
  · have := (meas_ok hr).2; rw [q] at this; simp at this
  · obtain ⟨rfl, rfl⟩ := hS.det (Stp.one hr)
    exact .inr rfl
theorem begins_short (h : r.length < 4) : begins r = false := by
  cases hb : begins r with
  | false => rfl
  | true => have := begins_len hb; lia
/-- a begin of a frame -/
theorem wd0 {f : Fr} (hg : Good N f) (h8 : 8 ≤ f.body.length) {c : Nat} (hc : 0 < c) (hc3 : c ≤ 3) : wdOk N (f.body.take c) (.str "short") := by
  have hl : (f.body.take c).length = c := by rw [List.length_take]; lia
  have hb : begins (f.body.take c) = false := begins_short (by lia)
  have ho : otherE (f.body.take c) = .short := by unfold otherE; rw [if_pos (by lia)]
  have := wdOk_not (N := N) (rest := f.body.take c) (fun q => by rw [q] at hl; simp at hl; lia) hb
  rw [ho] at this; exact this
theorem wd4 {f : Fr} (hg : Good N f) {c : Nat} (hc : 4 ≤ c) (hc3 : c < f.body.length) : wdOk N (f.body.take c) (.str "short") := by
  have hl : (f.body.take c).length = c := by rw [List.length_take]; lia
  have hb : begins (f.body.take c) = true := by
    have h := hg.beg
    obtain ⟨a, b, d, d', t, ht⟩ := four (r := f.body) (by lia)
    rw [ht] at h ⊢
    obtain ⟨c, rfl⟩ : ∃ c', c = c' + 4 := ⟨c - 4, by lia⟩
    simp only [List.take_succ_cons]
    rw [begins_iff] at h ⊢
    exact h
  refine wdOk_err (e := .short) (fun q => by rw [q] at hl; simp at hl; lia) ?_
  rcases meas_cut (N := N) (first := true) c hb with q | q
  · have h2 := (meas_ok (q.trans hg)).2.2
    lia
  · exact q
theorem wd1 {a : Nat} {x : List UInt8} (ha : a = 30 ∨ (34 ≤ a ∧ a ≤ 39)) : wdOk N ([UInt8.ofNat a, 181, 47, 253] ++ x) (.str "older") := by
  have h1 : (UInt8.ofNat a).toNat = a := by simp [UInt8.toNat_ofNat']; lia
  have hold : isOld (le [UInt8.ofNat a, 181, 47, 253]) := by rw [old_iff, h1]; exact ⟨rfl, ha⟩
  have hb : begins ([UInt8.ofNat a, 181, 47, 253] ++ x) = false := by
    cases hb : begins ([UInt8.ofNat a, 181, 47, 253] ++ x) with
    | false => rfl
    | true =>
      simp only [List.cons_append, List.nil_append] at hb
      rw [begins_iff] at hb
      unfold isOld at hold
      unfold isFr isSk at hb
      lia
  have ho : otherE ([UInt8.ofNat a, 181, 47, 253] ++ x) = .older := by
    simp only [List.cons_append, List.nil_append]
    rw [other4, if_pos (by rw [h1]; exact ⟨rfl, ha⟩)]
  have := wdOk_not (N := N) (rest := [UInt8.ofNat a, 181, 47, 253] ++ x) (by simp) hb
  rw [ho] at this; exact this
theorem begins_tail {a b c d : UInt8} {t : List UInt8} (h : begins (a :: b :: c :: d :: t) = true) : [b, c, d] = [181, 47, 253] ∨ [b, c, d] = [42, 77, 24] := by
  simp only [begins, Bool.or_eq_true, Bool.and_eq_true, decide_eq_true_eq] at h
  rcases h with h | h
  · exact .inl (List.cons.inj (show a :: [b, c, d] = 40 :: [181, 47, 253] from h)).2
  · exact .inr h.2
theorem off_aux {b c d b' c' d' : UInt8} (h : [b, c, d] = [181, 47, 253] ∨ [b, c, d] = [42, 77, 24]) (h' : [b', c', d'] = [181, 47, 253] ∨ [b', c', d'] = [42, 77, 24]) (k : (b' ≠ b ∧ c' = c) ∨ (b' = b ∧ c' ≠ c) ∨ (b' = b ∧ d' ≠ d)) : False := by
  rcases h with h | h <;> rcases h' with h' | h' <;> (cases h; cases h'; revert k; decide)
theorem wd2_aux {a b c d b' c' d' : UInt8} {t : List UInt8} (h : begins (a :: b :: c :: d :: t) = true) (hne : (b'.toNat ≠ b.toNat ∧ c' = c ∧ d' = d) ∨ (b' = b ∧ c'.toNat ≠ c.toNat ∧ d' = d) ∨ (b' = b ∧ c' = c ∧ d'.toNat ≠ d.toNat)) :
    wdOk N (a :: b' :: c' :: d' :: t) (.str "header") := by
  have k : (b' ≠ b ∧ c' = c) ∨ (b' = b ∧ c' ≠ c) ∨ (b' = b ∧ d' ≠ d) := by
    rcases hne with ⟨h1, h2, h3⟩ | ⟨h1, h2, h3⟩ | ⟨h1, h2, h3⟩
    · exact .inl ⟨fun e => h1 (e ▸ rfl), h2⟩
    · exact .inr (.inl ⟨h1, fun e => h2 (e ▸ rfl)⟩)
    · exact .inr (.inr ⟨h1, fun e => h3 (e ▸ rfl)⟩)
  have hbf : begins (a :: b' :: c' :: d' :: t) = false := by
    cases hq : begins (a :: b' :: c' :: d' :: t) with
    | false => rfl
    | true => exact (off_aux (begins_tail h) (begins_tail hq) k).elim
  have ho : otherE (a :: b' :: c' :: d' :: t) = .header := by
    rw [other4, if_neg fun q => off_aux (begins_tail h) (.inl q.1) k]
  have := wdOk_not (N := N) (rest := a :: b' :: c' :: d' :: t) (by simp) hbf
  rw [ho] at this; exact this
theorem wd2 {f : Fr} (hg : Good N f) (h8 : 8 ≤ f.body.length) {spot : Nat} {y : UInt8} (h1 : 1 ≤ spot) (h3 : spot ≤ 3) (hy : y.toNat ≠ (f.body[spot]?.getD 0).toNat) : wdOk N (f.body.take spot ++ (y :: f.body.drop (spot + 1))) (.str "header") := by
  have h := hg.beg
  obtain ⟨a, b, c, d, t, ht⟩ := four (r := f.body) (by lia)
  rw [ht] at h hy ⊢
  have : spot = 1 ∨ spot = 2 ∨ spot = 3 := by lia
  rcases this with rfl | rfl | rfl
  · exact wd2_aux h (.inl ⟨by simpa using hy, rfl, rfl⟩)
  · exact wd2_aux h (.inr (.inl ⟨rfl, by simpa using hy, rfl⟩))
  · exact wd2_aux h (.inr (.inr ⟨rfl, rfl, by simpa using hy⟩))
theorem wd5 {x : Nat} {s : List UInt8} (hx : x < 256) (h8 : x / 8 % 2 = 1) : wdOk N (frB ++ ([UInt8.ofNat x] ++ s)) (.str "header") := by
  have hox : octN [UInt8.ofNat x] = x := by
    simp [octN, UInt8.toNat_ofNat']; lia
  refine wdOk_err (e := .header) (by simp [frB]) ?_
  rw [run_fr]
  have : hdrQ.run ([UInt8.ofNat x] ++ s) = .err .header := by
    unfold hdrQ
    rw [bind_app (oct_run rfl), hox, if_pos h8]; rfl
  rw [run_bind_err this]; rfl
theorem wd6 {o : List UInt8} {bl : Bl} {v : Nat} (h : Pre o bl k) (hk : k + 1 ≤ N) (hv : v < 16777216) (h3 : v / 2 % 4 = 3) : wdOk N (frB ++ ([UInt8.ofNat 32] ++ ([] ++ ([] ++ ([9] ++ (o ++ low v 3)))))) (.str "block") := by
  refine wdOk_err (e := .block) (by simp [frB]) ?_
  rw [run_fr]
  have hq := hdrQ_run (x := 32) (wide := []) (ident := []) (size := [9]) (s := o ++ low v 3) (by decide) (by decide) (by decide) (by decide) (by decide)
  rw [run_bind hq]
  have hd : ([UInt8.ofNat 32] ++ ([] ++ ([] ++ ([(9 : UInt8)] ++ (o ++ low v 3))))).drop (1 + (([] : List UInt8).length + (([] : List UInt8).length + [(9 : UInt8)].length))) = o ++ low v 3 := rfl
  rw [hd]
  have hb := h (N - k) (low v 3)
  rw [Nat.sub_add_cancel (by lia)] at hb
  obtain ⟨j, hj⟩ : ∃ j, N - k = j + 1 := ⟨N - k - 1, by lia⟩
  have hbe : (blkP (N - k) bl).run (low v 3) = .err .block := by
    rw [hj, blkP]
    have hh : bheadP.run (low v 3 ++ []) = .ok (decide (v % 2 = 1), v / 2 % 4, v / 8) (low v 3).length := by
      rw [bheadP, bind_app (by rw [low_len]; exact little_run (low_len v 3)), le_low3 hv]
      simp [Pr.run, Out.add]
    have := bind_app (g := fun h : Bool × Nat × Nat => if h.2.1 = 3 then (.fail .block : Pr Bl) else (takeP (if h.2.1 = 1 then 1 else h.2.2)).bind fun _ => if h.1 = true then .ret (bl ++ [(h.2.1, h.2.2)]) else blkP j (bl ++ [(h.2.1, h.2.2)])) hh
    rw [List.append_nil] at this
    rw [this, if_pos h3]; rfl
  rw [hbe] at hb
  rw [run_bind_err hb]; rfl
end
end
def GoodF (N : Nat) (gs : List Fr) : Prop := ∀ f ∈ gs, Good N f ∧ 8 ≤ f.body.length ∧ f.body.length ≤ 2000
abbrev IFrs := { x : J × Nat // x.2 ≤ 10 }
abbrev cFrames (N : Nat) : PF := sp (fun x : IFrs => eJ1 x.1.1 x.1.2) fun x Q _ => ∀ (gs : List Fr) j, gs.length = x.1.2 → GoodF N gs → Q (frsD gs) [jm j]
structure FS (N i : Nat) where
  j : J
  gs : List Fr
  ad : List D
  ha : ad = gs.map Fr.T
  hl : gs.length = i
  hg : ∀ f ∈ gs, Good N f ∧ 8 ≤ f.body.length ∧ f.body.length ≤ 200 * i
  x : Option D
  y : Option D
theorem FS.len {N i : Nat} (s : FS N i) : s.ad.length = i := by rw [s.ha, List.length_map, s.hl]
def FS.next {N i : Nat} (s : FS N i) {f : Fr} (h1 : Good N f) (h2 : 8 ≤ f.body.length) (h3 : f.body.length ≤ 200 * i + 200) (j : J) (x y : Option D) : FS N (i + 1) :=
  ⟨j, s.gs ++ [f], s.ad ++ [f.T], by rw [s.ha, List.map_append]; rfl, len_snoc s.hl, fun g hg => (List.mem_append.mp hg).elim (fun q => ⟨(s.hg g q).1, (s.hg g q).2.1, Nat.le_trans (s.hg g q).2.2 (Nat.mul_le_mul_left 200 (Nat.le_succ i))⟩) fun q => by rw [List.mem_singleton.mp q]; exact ⟨h1, h2, h3⟩, x, y⟩
theorem FS.last {N i : Nat} (s : FS N i) (h : notNil s.ad = true) : ∃ f : Fr, f ∈ s.gs ∧ s.ad[s.ad.length - 1]? = some f.T ∧ 1 ≤ s.ad.length := by
  have hp : 0 < s.ad.length := by
    cases q : s.ad with
    | nil => rw [q] at h; exact nomatch h
    | cons => exact Nat.succ_pos _
  have hg : s.gs.length - 1 < s.gs.length := Nat.sub_lt (by rw [s.hl, ← s.len]; exact hp) Nat.one_pos
  exact ⟨s.gs[s.gs.length - 1], List.getElem_mem hg, (congrArg (fun n => s.ad[n]?) (show s.ad.length - 1 = s.gs.length - 1 by rw [s.ha, List.length_map])).trans (by rw [s.ha, List.getElem?_map, List.getElem?_eq_getElem hg]; rfl), hp⟩
abbrev IRest (N : Nat) := { x : J × Fr // Good N x.2 ∧ 8 ≤ x.2.body.length ∧ x.2.body.length ≤ 5000 }
abbrev cRest (N : Nat) : PF := sp (fun x : IRest N => ([.hl 0, .bytes x.1.2.body], [jm x.1.1])) fun x Q _ => ∀ rest wd j, wdOk N rest wd → rest.length ≤ 10000 → (wd = .none ∨ ∃ s, wd = .str s) → Q (.tup [.bytes rest, wd]) [jm j]
theorem lt7 {n : Nat} (h : n < 7) : n = 0 ∨ n = 1 ∨ n = 2 ∨ n = 3 ∨ n = 4 ∨ n = 5 ∨ n = 6 := by lia
theorem old_at {z : Nat} (h : z < 7) : ∃ a : Nat, [D.int 30, .int 34, .int 35, .int 36, .int 37, .int 38, .int 39][z]? = some (nD a) ∧ (a = 30 ∨ (34 ≤ a ∧ a ≤ 39)) ∧ a < 256 := by
  rcases lt7 h with rfl | rfl | rfl | rfl | rfl | rfl | rfl
  · exact ⟨30, rfl, .inl rfl, by decide⟩
  · exact ⟨34, rfl, .inr (by decide), by decide⟩
  · exact ⟨35, rfl, .inr (by decide), by decide⟩
  · exact ⟨36, rfl, .inr (by decide), by decide⟩
  · exact ⟨37, rfl, .inr (by decide), by decide⟩
  · exact ⟨38, rfl, .inr (by decide), by decide⟩
  · exact ⟨39, rfl, .inr (by decide), by decide⟩
theorem mk_ok : ∀ z < 128, z / 8 * 16 + 8 + z % 8 < 256 ∧ (z / 8 * 16 + 8 + z % 8) / 8 % 2 = 1 := by decide +kernel
theorem v_ok : ∀ z < 4, 8 * z + 6 < 16777216 ∧ (8 * z + 6) / 2 % 4 = 3 := by decide +kernel
theorem app_le {α : Type} {a b : List α} {m n k : Nat} (h1 : a.length ≤ m) (h2 : b.length ≤ n) (h : m + n ≤ k) : (a ++ b).length ≤ k := by rw [List.length_append]; exact Nat.le_trans (Nat.add_le_add h1 h2) h
theorem tk_le {α : Type} {a : List α} {n k : Nat} (h : a.length ≤ k) : (a.take n).length ≤ k := by rw [List.length_take]; exact Nat.le_trans (Nat.min_le_right _ _) h
theorem htk_z {l : List UInt8} {n : Nat} (h : n ≤ 3) : (l.take n).length ≤ 3 := by rw [List.length_take]; exact Nat.le_trans (Nat.min_le_left _ _) h
theorem l_frames {N : Nat} (O : ((GG prog w h₀ mg mb tabs tq)).Ok) (h__law_take : FK (GG prog w h₀ mg mb tabs tq) 2 377 cTk) (h__law_frame : FK (GG prog w h₀ mg mb tabs tq) 6 406 (cFrame N)) : FK (GG prog w h₀ mg mb tabs tq) 7 413 ((cFrames N)) :=
  FV_ct (LX O [⟨377, .fv 2 _ h__law_take⟩, ⟨406, .fv 6 _ h__law_frame⟩]) (defS 2 [] 3 (wSeq (wSet 2 (tNewL l0)) (wSeq (wFor (iRange (tVar 1)) (gN 3) (wSeq (wSet 4 (eJ (tIf (tAnd (tTrue (t2 (tVar 2) (tList l0) tNeq)) (tAnd (tTrue (t2 (tCall (l1 (tVar 0) (l1 (tD (.int 3)) l0)) cTk) (tD (.int 0)) oEq)) (tB true))) (t2 (t2 (tVar 2) (tD (.int (-1))) tItem) (tD (.int 0)) tItem) (tD (.bytes []))))) (wSeq (wExp (tApp (tVar 2) (tCall (l1 (tVar 0) (l1 (tVar 4) l0)) ((cFrame N))))) wSkip))) (wSeq (wRet (tVar 2)) wSkip)))) [] [] (by with_unfolding_all rfl) (.simple rfl) (fun _ _ _ _ _ => .nil) fun x Q Ex h => by
    walk_at "wh"
    refine ⟨Nat.le_trans x.2 (by decide), ?_⟩
    refine for_range (σ := FS N) (fun i s => ([some (.hl 0), some (nD x.1.2), some (.hl 1), s.x, s.y], [jm s.j, .list s.ad])) (fun i s C hi hC => ?_) (fun s => ?_) ⟨x.1.1, [], [], rfl, rfl, (fun _ h => nomatch h), none, none⟩
    · have hi10 : i ≤ 10 := Nat.le_trans (Nat.le_of_lt hi) x.2
      have h200 : 200 * i ≤ 2000 := Nat.mul_le_mul_left 200 hi10
      walk_at "wh"
      refine join_e (σ := { s : List UInt8 × J // s.1.length ≤ 200 * i }) (fun z => (.bytes z.1.1, [jm z.1.2, .list s.ad])) (fun C hC => ?_) (fun z => ?_)
      · walk_at "wh"
        refine br_of (fun e => ?_) (fun e => ?_)
        · walk_at "wh"
          refine .mk (⟨(s.j, 3), rfl⟩ : ITk) fun c j hc => ?_
          walk_at "wh"
          refine br_of (fun e1 => ?_) (fun e1 => ?_)
          · obtain ⟨f, hf, hf1, hf2⟩ := s.last e
            walk_at "gd"
            · exact ble_of (Nat.le_trans (Nat.le_of_eq s.len) (Nat.le_trans hi10 (by decide)))
            walk_at "gd"
            · exact ble_of hf2
            walk_at "wh"
            refine need_of hf1 ?_
            walk_at "wh"
            exact hC ⟨(f.body, j), (s.hg f hf).2.2⟩
          · walk_at "wh"
            exact hC ⟨([], j), Nat.zero_le _⟩
        · walk_at "wh"
          exact hC ⟨([], s.j), Nat.zero_le _⟩
      walk_at "wh"
      refine .mk (⟨(z.1.2, z.1.1), Nat.le_trans z.2 (Nat.le_trans h200 (by decide))⟩ : IBlk) fun f j hg h8 hfl => ?_
      walk_at "gd"
      · exact clD_frT f
      exact ⟨Nat.le_trans (Nat.le_of_eq s.len) (Nat.le_trans hi10 (by decide)), hC (s.next hg h8 (Nat.le_trans hfl (Nat.add_le_add_right z.2 200)) j _ _)⟩
    · walk_at "wh"
      refine at_ (P := fun l => Q (.list l) [jm s.j]) s.ha (h s.gs s.j s.hl fun f hf => ⟨(s.hg f hf).1, (s.hg f hf).2.1, Nat.le_trans (s.hg f hf).2.2 (Nat.mul_le_mul_left 200 x.2)⟩)
theorem l_rest {N : Nat} (hN : 2 ≤ N) (O : ((GG prog w h₀ mg mb tabs tq)).Ok) (h__law_take : FK (GG prog w h₀ mg mb tabs tq) 2 377 cTk) (h__law_some : FK (GG prog w h₀ mg mb tabs tq) 4 382 cSome) (h__law_low : FK (GG prog w h₀ mg mb tabs tq) 2 387 cLow) : FK (GG prog w h₀ mg mb tabs tq) 5 484 ((cRest N)) :=
  FV_ct (LX O [⟨377, .fv 2 _ h__law_take⟩, ⟨382, .fv 4 _ h__law_some⟩, ⟨387, .fv 2 _ h__law_low⟩]) (defS 2 [] 4 (wSeq (wSet 2 (tCall (l1 (tVar 0) (l1 (tD (.int 8)) l0)) cTk)) (wSeq (wIf (tTrue (t2 (tVar 2) (tD (.int 0)) oEq)) (wSeq (wRet (tTup (l1 (tCut (tVar 1) (tD .none) (t2 (tD (.int 1)) (tCall (l1 (tVar 0) (l1 (tD (.int 3)) l0)) cTk) tPlus)) (l1 (tD (.str "short")) l0)))) wSkip) wSkip) (wSeq (wIf (tTrue (t2 (tVar 2) (tD (.int 1)) oEq)) (wSeq (wRet (tTup (l1 (t2 (tBi (l1 (tList (l1 (t2 (tList (l1 (tD (.int 30)) (l1 (tD (.int 34)) (l1 (tD (.int 35)) (l1 (tD (.int 36)) (l1 (tD (.int 37)) (l1 (tD (.int 38)) (l1 (tD (.int 39)) l0)))))))) (tCall (l1 (tVar 0) (l1 (tD (.int 7)) l0)) cTk) tItem) (l1 (tD (.int 181)) (l1 (tD (.int 47)) (l1 (tD (.int 253)) l0))))) l0) tBytes) (tCut (tVar 1) (tD (.int 4)) (tD (.int 6))) tPlus) (l1 (tD (.str "older")) l0)))) wSkip) wSkip) (wSeq (wIf (tTrue (t2 (tVar 2) (tD (.int 2)) oEq)) (wSeq (wSet 3 (t2 (tD (.int 1)) (tCall (l1 (tVar 0) (l1 (tD (.int 3)) l0)) cTk) tPlus)) (wSeq (wRet (tTup (l1 (t2 (t2 (tCut (tVar 1) (tD .none) (tVar 3)) (tBi (l1 (tList (l1 (t2 (t2 (tVar 1) (tVar 3) tItem) (t2 (tD (.int 2)) (tCall (l1 (tVar 0) (l1 (tD (.int 8)) l0)) cTk) oPow) oXor) l0)) l0) tBytes) tPlus) (tCut (tVar 1) (t2 (tVar 3) (tD (.int 1)) tPlus) (tD .none)) tPlus) (l1 (tD (.str "header")) l0)))) wSkip)) wSkip) (wSeq (wIf (tTrue (t2 (tVar 2) (tD (.int 3)) oEq)) (wSeq (wRet (tTup (l1 (tCall (l1 (tVar 0) (l1 (t2 (tD (.int 4)) (tCall (l1 (tVar 0) (l1 (tD (.int 3)) l0)) cTk) tPlus) l0)) cSome) (l1 (tD .none) l0)))) wSkip) wSkip) (wSeq (wIf (tTrue (t2 (tVar 2) (tD (.int 4)) oEq)) (wSeq (wRet (tTup (l1 (tCut (tVar 1) (tD .none) (t2 (tD (.int 4)) (tCall (l1 (tVar 0) (l1 (t2 (tBi (l1 (tVar 1) l0) tLen) (tD (.int 4)) oSub) l0)) cTk) tPlus)) (l1 (tD (.str "short")) l0)))) wSkip) wSkip) (wSeq (wIf (tTrue (t2 (tVar 2) (tD (.int 5)) oEq)) (wSeq (wSet 4 (tCall (l1 (tVar 0) (l1 (tD (.int 128)) l0)) cTk)) (wSeq (wRet (tTup (l1 (t2 (tBi (l1 (tList (l1 (tD (.int 40)) (l1 (tD (.int 181)) (l1 (tD (.int 47)) (l1 (tD (.int 253)) (l1 (t2 (t2 (t2 (t2 (tVar 4) (tD (.int 8)) oDiv) (tD (.int 16)) oMul) (tD (.int 8)) tPlus) (t2 (tVar 4) (tD (.int 8)) oMod) tPlus) l0)))))) l0) tBytes) (tCut (tVar 1) (tD (.int 5)) (tD .none)) tPlus) (l1 (tD (.str "header")) l0)))) wSkip)) wSkip) (wSeq (wIf (tTrue (t2 (tVar 2) (tD (.int 6)) oEq)) (wSeq (wSet 5 (eJ (tIf (tTrue (t2 (tCall (l1 (tVar 0) (l1 (tD (.int 2)) l0)) cTk) (tD (.int 0)) oEq)) (t2 (tCall (l1 (t2 (tD (.int 8)) (tBi (l1 (tVar 1) l0) tLen) oMulL) (l1 (tD (.int 3)) l0)) cLow) (tVar 1) tPlus) (tD (.bytes []))))) (wSeq (wRet (tTup (l1 (t2 (t2 (tBi (l1 (tList (l1 (tD (.int 40)) (l1 (tD (.int 181)) (l1 (tD (.int 47)) (l1 (tD (.int 253)) (l1 (tD (.int 32)) (l1 (tD (.int 9)) l0))))))) l0) tBytes) (tVar 5) tPlus) (tCall (l1 (t2 (t2 (tD (.int 8)) (tCall (l1 (tVar 0) (l1 (tD (.int 4)) l0)) cTk) oMulL) (tD (.int 6)) tPlus) (l1 (tD (.int 3)) l0)) cLow) tPlus) (l1 (tD (.str "block")) l0)))) wSkip)) wSkip) (wSeq (wRet (tTup (l1 (tVar 1) (l1 (tD (.str "")) l0)))) wSkip)))))))))) [] [] (by with_unfolding_all rfl) (.simple rfl) (fun _ _ _ _ _ => .nil) fun x Q Ex h => by
    walk_at "wh"
    have hl : x.1.2.body.length ≤ 5000 := x.2.2.2
    have hlb : Nat.ble x.1.2.body.length 16777216 = true := ble_of (Nat.le_trans hl (by decide))
    have htk : ∀ n, (x.1.2.body.take n).length ≤ 5000 := fun n => by rw [List.length_take]; exact Nat.le_trans (Nat.min_le_right _ _) hl
    have hdr : ∀ n, (x.1.2.body.drop n).length ≤ 5000 := fun n => by rw [List.length_drop]; exact Nat.le_trans (Nat.sub_le _ _) hl
    refine .mk (⟨(x.1.1, 8), rfl⟩ : ITk) fun kd j hk => ?_
    walk_at "wh"
    refine br_of (fun e => ?_) (fun e => ?_)
    · walk_at "wh"
      refine .mk (⟨(j, 3), rfl⟩ : ITk) fun z j hz => ?_
      walk_at "gd"
      · exact hlb
      walk_at "wh"
      exact h _ _ j (wd0 x.2.1 x.2.2.1 (Nat.lt_of_lt_of_le Nat.one_pos (Nat.le_add_right _ _)) (Nat.add_le_add_left (Nat.le_of_lt_succ hz) 1)) (Nat.le_trans (htk _) (by decide)) (.inr ⟨_, rfl⟩)
    walk_at "wh"
    refine br_of (fun e => ?_) (fun e => ?_)
    · walk_at "wh"
      refine .mk (⟨(j, 7), rfl⟩ : ITk) fun z j hz => ?_
      obtain ⟨a, ha1, ha2, ha3⟩ := old_at hz
      walk_at "wh"
      refine need_of ha1 ?_
      walk_at "wh"
      refine need_of (octs_cons ha3 rfl) ?_
      walk_at "gd"
      · exact hlb
      walk_at "gd"
      · exact cat_ok (show 4 ≤ 8000000 by decide) (tk_le (Nat.le_trans (hdr _) (by decide)))
      walk_at "wh"
      exact h _ _ j (wd1 ha2) (app_le (show 4 ≤ 4 by decide) (tk_le (hdr _)) (by decide)) (.inr ⟨_, rfl⟩)
    walk_at "wh"
    refine br_of (fun e => ?_) (fun e => ?_)
    · walk_at "wh"
      refine .mk (⟨(j, 3), rfl⟩ : ITk) fun z j hz => ?_
      have hz : 1 + z ≤ 3 := Nat.add_le_add_left (Nat.le_of_lt_succ hz) 1
      walk_at "gd"
      · exact hlb
      walk_at "wh"
      refine ⟨Nat.lt_of_le_of_lt hz (Nat.lt_of_lt_of_le (by decide) x.2.2.1), Nat.le_trans hl (by decide), ?_⟩
      walk_at "wh"
      refine .mk (⟨(j, 8), rfl⟩ : ITk) fun c j hc => ?_
      walk_at "gd"
      · exact and_i (ble_of (Nat.le_trans (Nat.le_of_lt hc) (Nat.le_of_ble_eq_true rfl))) rfl
      walk_at "wh"
      obtain ⟨y1, y2, y3⟩ := xor_byte _ (x.1.2.body.getD (1 + z) 0).toNat_lt c hc
      refine need_of (a := [UInt8.ofNat ((x.1.2.body.getD (1 + z) 0).toNat ^^^ 2 ^ c)]) ((congrArg (fun z => octsI [z]) y1).trans (octs_cons y2 rfl)) ?_
      walk_at "gd"
      · exact ble_of (Nat.le_trans (Nat.succ_le_succ (htk _)) (by decide))
      walk_at "gd"
      · exact hlb
      walk_at "gd"
      · rw [List.length_append]; exact ble_of (Nat.le_trans (Nat.add_le_add (Nat.add_le_add_right (htk _) _) (hdr _)) (show 5000 + 1 + 5000 ≤ 16777216 by decide))
      walk_at "wh"
      refine at_ (P := fun z => Q (.tup [.bytes z, _]) [jm j]) (List.append_assoc _ [_] _) (h _ _ j (wd2 (y := UInt8.ofNat ((x.1.2.body.getD (1 + z) 0).toNat ^^^ 2 ^ c)) x.2.1 x.2.2.1 (Nat.le_add_right 1 z) hz ?_) ?_ (.inr ⟨_, rfl⟩))
      · rw [UInt8.toNat_ofNat', Nat.mod_eq_of_lt y2, ← List.getD_eq_getElem?_getD]; exact y3
      · exact app_le (htk_z hz) (Nat.succ_le_succ (hdr _)) (show 3 + (5000 + 1) ≤ 10000 by decide)
    walk_at "wh"
    refine br_of (fun e => ?_) (fun e => ?_)
    · walk_at "wh"
      refine .mk (⟨(j, 3), rfl⟩ : ITk) fun z j hz => ?_
      have hz : z < 3 := hz
      walk_at "wh"
      refine .mk (⟨(j, 4 + z), Nat.le_trans (Nat.add_le_add_left (Nat.le_of_lt hz) 4) (by decide)⟩ : ISome) fun l j hl => ?_
      have hl : l.length = 4 + z := hl
      walk_at "wh"
      exact h _ _ j (wdOk_none fun q => by rw [q] at hl; exact absurd (hl.trans (Nat.add_comm 4 z)) (nomatch ·)) (Nat.le_trans (Nat.le_of_eq hl) (Nat.le_trans (Nat.add_le_add_left (Nat.le_of_lt hz) 4) (by decide))) (.inl rfl)
    walk_at "wh"
    refine br_of (fun e => ?_) (fun e => ?_)
    · walk_at "gd"
      · exact ble_of (Nat.le_trans hl (by decide))
      walk_at "wh"
      refine at_left (Q := fun z => Ct _ _ _ _ [_, .int z] _) (a := x.1.2.body.length) (b := 4) (Nat.le_trans (by decide) x.2.2.1) ?_
      refine .mk (⟨(j, x.1.2.body.length - 4), and_i (ble_of (Nat.le_sub_of_add_le (Nat.le_trans (by decide) x.2.2.1))) (ble_of (Nat.le_trans (Nat.sub_le _ _) (Nat.le_trans hl (by decide))))⟩ : ITk) fun z j hz => ?_
      have hz : z < x.1.2.body.length - 4 := hz
      walk_at "gd"
      · exact hlb
      walk_at "wh"
      exact h _ _ j (wd4 (c := 4 + z) x.2.1 (Nat.le_add_right 4 z) (Nat.add_comm z 4 ▸ Nat.add_lt_of_lt_sub hz)) (Nat.le_trans (htk _) (by decide)) (.inr ⟨_, rfl⟩)
    walk_at "wh"
    refine br_of (fun e => ?_) (fun e => ?_)
    · walk_at "wh"
      refine .mk (⟨(j, 128), rfl⟩ : ITk) fun z j hz => ?_
      have hm := mk_ok z hz
      walk_at "wh"
      refine need_of (frB_octs hm.1) ?_
      walk_at "gd"
      · exact hlb
      walk_at "gd"
      · exact cat_ok (show 5 ≤ 8000000 by decide) (Nat.le_trans (hdr _) (by decide))
      walk_at "wh"
      exact h _ _ j (wd5 hm.1 hm.2) (app_le (show 5 ≤ 5 by decide) (hdr _) (by decide)) (.inr ⟨_, rfl⟩)
    walk_at "wh"
    refine br_of (fun e => ?_) (fun e => ?_)
    · walk_at "wh"
      refine join_e (σ := { s : List UInt8 × Bl × Nat × J // Pre s.1 s.2.1 s.2.2.1 ∧ s.2.2.1 ≤ 1 ∧ s.1.length ≤ 5010 }) (fun s => (.bytes s.1.1, [jm s.1.2.2.2])) (fun C hC => ?_) (fun s => ?_)
      · walk_at "wh"
        refine .mk (⟨(j, 2), rfl⟩ : ITk) fun c j hc => ?_
        walk_at "wh"
        refine br_of (fun e => ?_) (fun e => ?_)
        · walk_at "gd"
          · exact ble_of (Nat.le_trans hl (by decide))
          walk_at "wh"
          refine .mk (⟨8 * x.1.2.body.length, 3, by decide⟩ : ILow) ?_
          walk_at "gd"
          · exact cat_ok (Nat.le_trans (Nat.le_of_eq (low_len _ 3)) (by decide)) (Nat.le_trans hl (by decide))
          exact hC ⟨(low (8 * x.1.2.body.length) 3 ++ x.1.2.body, [(0, x.1.2.body.length)], 1, j), pre_step (kind := 0) pre_nil (by decide) (Nat.lt_of_le_of_lt hl (by decide)) rfl, Nat.le_refl _, app_le (Nat.le_of_eq (low_len _ 3)) hl (by decide)⟩
        · walk_at "wh"
          exact hC ⟨([], [], 0, j), pre_nil, Nat.zero_le _, Nat.zero_le _⟩
      walk_at "gd"
      · exact cat_ok (show 6 ≤ 8000000 by decide) (Nat.le_trans s.2.2.2 (by decide))
      walk_at "wh"
      refine .mk (⟨(s.1.2.2.2, 4), rfl⟩ : ITk) fun z j hz => ?_
      have hv := v_ok z hz
      walk_at "wh"
      refine .mk (⟨8 * z + 6, 3, by decide⟩ : ILow) ?_
      walk_at "gd"
      · exact cat_ok (Nat.le_trans (app_le (show 6 ≤ 6 by decide) s.2.2.2 (show 6 + 5010 ≤ 6000 by decide)) (by decide)) (Nat.le_trans (Nat.le_of_eq (low_len _ 3)) (by decide))
      walk_at "wh"
      refine at_ (P := fun z => Q (.tup [.bytes z, _]) [jm j]) (List.append_assoc _ _ _) ?_
      exact h _ _ j (wd6 s.2.1 (Nat.le_trans (Nat.succ_le_succ s.2.2.1) hN) hv.1 hv.2) (app_le (show 6 ≤ 6 by decide) (app_le s.2.2.2 (Nat.le_of_eq (low_len _ 3)) (show 5010 + 3 ≤ 5020 by decide)) (by decide)) (.inr ⟨_, rfl⟩)
    · walk_at "wh"
      exact h _ _ j (wdOk_ok x.2.1) (Nat.le_trans hl (by decide)) (.inr ⟨_, rfl⟩)
section

/-! ## sums of sizes -/
def ojoin (a b : Option Nat) : Option Nat := match a, b with
  | some x, some y => some (x + y)
  | _, _ => none
theorem amt_append : ∀ a b : List (Option Hd), amt (a ++ b) = ojoin (amt a) (amt b)
  | [], b => by cases h : amt b <;> simp [amt, ojoin, h]
  | none :: a, b => by rw [List.cons_append, amt, amt, amt_append a b]
  | some h :: a, b => by
    rw [List.cons_append, amt, amt, amt_append a b]
    cases h.size <;> cases amt a <;> cases amt b <;> simp [ojoin, Nat.add_assoc]
theorem join_comm (a b : Option Nat) : ojoin a b = ojoin b a := by
  cases a <;> cases b <;> simp [ojoin, Nat.add_comm]
theorem join_left (a b c : Option Nat) : ojoin a (ojoin b c) = ojoin b (ojoin a c) := by
  cases a <;> cases b <;> cases c <;> simp [ojoin]; lia
theorem amt_insert (a b c : List (Option Hd)) : amt (a ++ (b ++ c)) = ojoin (amt b) (amt (a ++ c)) := by
  rw [amt_append, amt_append, amt_append, join_left]
theorem sh_told (k : Nat) (fs : List Sp) : (fs.map (·.sh k)).map (·.told) = fs.map (·.told) := by
  rw [List.map_map]; rfl
theorem rowS_told : ∀ (gs : List Fr) (b : Nat), (rowS b gs).map (·.told) = gs.map (·.told)
  | [], _ => rfl
  | f :: gs, b => by rw [rowS, List.map_cons, List.map_cons, rowS_told gs]
theorem cat_le : ∀ (gs : List Fr) (m : Nat), (∀ f ∈ gs, f.body.length ≤ m) → (cat gs).length ≤ m * gs.length
  | [], m, _ => by simp [cat]
  | f :: gs, m, h => by
    have h1 := h f (.head _)
    have h2 := cat_le gs m fun g hg => h g (.tail _ hg)
    rw [cat, List.length_append, List.length_cons, Nat.mul_succ]; lia
theorem GoodF.tot {N : Nat} {gs : List Fr} (h : GoodF N gs) (hl : gs.length ≤ 20) : (cat gs).length ≤ 40000 := by
  have := cat_le gs 2000 fun f hf => (h f hf).2.2
  have h2 : 2000 * gs.length ≤ 2000 * 20 := Nat.mul_le_mul_left _ hl
  lia
theorem GoodF.good {N : Nat} {gs : List Fr} (h : GoodF N gs) : ∀ f ∈ gs, Good N f := fun f hf => (h f hf).1
theorem frs_take (gs : List Fr) (n : Nat) : (gs.map Fr.T).take n = (gs.take n).map Fr.T := by rw [List.map_take]
theorem frs_drop (gs : List Fr) (n : Nat) : (gs.map Fr.T).drop n = (gs.drop n).map Fr.T := by rw [List.map_drop]
theorem sps_take (gs : List Sp) (n : Nat) : (gs.map Sp.T).take n = (gs.take n).map Sp.T := by rw [List.map_take]
theorem sps_drop (gs : List Sp) (n : Nat) : (gs.map Sp.T).drop n = (gs.drop n).map Sp.T := by rw [List.map_drop]
theorem rowS_take (gs : List Fr) (n : Nat) (h : n ≤ gs.length) : (rowS 0 gs).take n = rowS 0 (gs.take n) ∧ (rowS 0 gs).drop n = rowS (cat (gs.take n)).length (gs.drop n) := by
  have e : rowS 0 gs = rowS 0 (gs.take n) ++ rowS (cat (gs.take n)).length (gs.drop n) := by
    have := rowS_append (gs.take n) (gs.drop n) 0
    rw [List.take_append_drop, Nat.zero_add] at this
    exact this
  have hl : (rowS 0 (gs.take n)).length = n := by rw [rowS_length, List.length_take]; lia
  constructor
  · rw [e, List.take_append_of_le_length (by lia), List.take_of_length_le (by lia)]
  · rw [e, List.drop_append_of_le_length (by lia), List.drop_of_length_le (by lia), List.nil_append]
/-! ## a frame in the midst -/
theorem good_some {N : Nat} {f : Fr} {h : Hd} (hg : Good N f) (ht : f.told = some h) (s : List UInt8) : skipP.run (f.body ++ s) = .err .header := by
  have h4 := hg.len
  obtain ⟨a, b, c, d, t, hb⟩ := four (r := f.body) h4
  unfold Good at hg
  rw [run4 h4] at hg
  obtain ⟨k, hk, _⟩ := add_ok hg
  have hns : ¬ isSk (le (f.body.take 4)) := fun q => by
    unfold frameM at hk
    rw [if_neg (fun z => z.2.2 q), if_pos q] at hk
    cases hq : (skipM (le (f.body.take 4))).run (f.body.drop 4) with
    | ok x n =>
      rw [run_bind hq] at hk
      simp only [Pr.run, Out.add] at hk
      injection hk with h1 _
      rw [ht] at h1
      injection h1 with h1 _
      cases h1
    | err e => rw [run_bind_err hq] at hk; cases hk
  rw [hb] at hns ⊢
  unfold skipP
  have e : (a :: b :: c :: d :: t) ++ s = [a, b, c, d] ++ (t ++ s) := rfl
  have hl : (littleP 4).run ([a, b, c, d] ++ (t ++ s)) = .ok (le [a, b, c, d]) [a, b, c, d].length := little_run rfl
  rw [e, bind_app hl]
  unfold skipM
  have hns' : ¬ isSk (le [a, b, c, d]) := hns
  rw [if_neg hns']; rfl
theorem good_none {N : Nat} {f : Fr} (hg : Good N f) (ht : f.told = none) (s : List UInt8) : skipP.run (f.body ++ s) = .ok (octN f.body - 80, f.body.drop 8) f.body.length ∧ 80 ≤ octN f.body ∧ 8 ≤ f.body.length := by
  have h4 := hg.len
  obtain ⟨a, b, c, d, t, hb⟩ := four (r := f.body) h4
  have hbeg := hg.beg
  unfold Good at hg
  rw [run4 h4] at hg
  obtain ⟨k, hk, hkl⟩ := add_ok hg
  rw [hb] at hbeg
  rw [begins_iff] at hbeg
  have hm : f.body.take 4 = [a, b, c, d] := by rw [hb]; rfl
  have hd : f.body.drop 4 = t := by rw [hb]; rfl
  rw [hm, hd] at hk
  have hsk : isSk (le [a, b, c, d]) := by
    rcases hbeg with q | q
    · unfold frameM at hk
      have hns : ¬ isSk (le [a, b, c, d]) := by unfold isFr at q; unfold isSk; lia
      rw [if_neg (fun z => z.2.1 q), if_neg hns] at hk
      cases hq : (hdrM (le [a, b, c, d])).run t with
      | ok x n =>
        rw [run_bind hq] at hk
        obtain ⟨j, hj, _⟩ := add_ok hk
        cases hq2 : (blkP N []).run (t.drop n) with
        | ok y m =>
          rw [run_bind hq2] at hj
          obtain ⟨j2, hj2, _⟩ := add_ok hj
          unfold sumP at hj2
          split at hj2
          · simp only [littleP, Pr.bind, Pr.run] at hj2
            split at hj2
            · simp only [Out.add] at hj2
              injection hj2 with h1 _
              rw [ht] at h1
              injection h1 with h1 _
              cases h1
            · cases hj2
          · simp only [Pr.run] at hj2
            injection hj2 with h1 _
            rw [ht] at h1
            injection h1 with h1 _
            cases h1
        | err e => rw [run_bind_err hq2] at hj; cases hj
      | err e => rw [run_bind_err hq] at hk; cases hk
    · exact q
  unfold frameM at hk
  rw [if_neg (fun z => z.2.2 hsk), if_pos hsk] at hk
  cases hq : (skipM (le [a, b, c, d])).run t with
  | err e => rw [run_bind_err hq] at hk; cases hk
  | ok x n =>
    rw [run_bind hq] at hk
    simp only [Pr.run, Out.add] at hk
    injection hk with _ hkn
    have hn : n = t.length := by
      have : f.body.length = t.length + 4 := by rw [hb]; rfl
      lia
    have hext := (run_ext hq).2 s
    rw [hn, List.take_length] at hext
    have hq' := hq
    unfold skipM at hq'
    rw [if_pos hsk] at hq'
    have h4t : 4 ≤ t.length := by
      refine Nat.le_of_not_lt fun q => ?_
      have : skipQ.run t = .err .short := by
        simp only [skipQ, littleP, Pr.bind, Pr.run]
        rw [if_neg (by lia)]
      rw [run_bind_err this] at hq'; cases hq'
    have hx : x = (le [a, b, c, d] % 16, t.drop 4) := by
      obtain ⟨e, f', g, i, u, rfl⟩ := four h4t
      simp only [skipQ, littleP, takeP, Pr.bind, Pr.run, List.take_succ_cons, List.take_zero, List.drop_succ_cons, List.drop_zero, List.length_cons] at hq'
      rw [if_pos (by lia)] at hq'
      split at hq'
      · simp only [Out.add] at hq'
        injection hq' with h1 h2
        rw [← h1]
        have : (List.take (le [e, f', g, i]) u) = u := by
          rw [List.take_of_length_le]
          rw [hn] at h2; simp at h2; lia
        rw [this]; rfl
      · cases hq'
    have ha := a.toNat_lt
    have hba := b.toNat_lt
    have hca := c.toNat_lt
    have hda := d.toNat_lt
    have hoc : octN f.body = a.toNat := by rw [hb]; rfl
    have h16 : a.toNat / 16 = 5 := by
      unfold isSk at hsk
      simp only [le] at hsk
      lia
    have hm16 : le [a, b, c, d] % 16 = octN f.body - 80 := by
      rw [hoc]
      simp only [le]
      lia
    refine ⟨?_, by lia, by rw [hb]; simp; lia⟩
    unfold skipP
    have e : f.body ++ s = [a, b, c, d] ++ (t ++ s) := by rw [hb]; rfl
    have hl : (littleP 4).run ([a, b, c, d] ++ (t ++ s)) = .ok (le [a, b, c, d]) [a, b, c, d].length := little_run rfl
    rw [e, bind_app hl, hext, hx, hm16]
    have : f.body.drop 8 = t.drop 4 := by rw [hb]; rfl
    rw [this]
    simp only [Out.add]
    congr 1
    rw [hb]; simp; lia
end
abbrev IExch (N : Nat) := { x : J × List Fr // 2 ≤ x.2.length ∧ x.2.length ≤ 10 ∧ GoodF N x.2 }
abbrev cExch (N : Nat) : PF := sp (fun x : IExch N => ([.hl 0, frsD x.1.2], [jm x.1.1])) fun x Q _ => ∀ j, Q (.bool true) [jm j]
abbrev IPut (N : Nat) := { x : J × List Fr // x.2.length ≤ 10 ∧ GoodF N x.2 }
abbrev cPut (N : Nat) : PF := sp (fun x : IPut N => ([.hl 0, .bytes (cat x.1.2), spsD (rowS 0 x.1.2)], [jm x.1.1])) fun x Q _ => ∀ j, Q (.bool true) [jm j]
abbrev ISz (N : Nat) := { x : ISp N // x.w = none }
theorem eq_on {μ : List MO} {a : Option Nat} {Q : D → Prop} (h : Q (.bool true)) : tJ oEq μ (onD a) (onD a) Q := tJ_of (by
  cases a with
  | none => exact h
  | some n => exact at_ (P := fun z => Q (.bool z)) (decide_eq_true rfl) h)
theorem neq_on {μ : List MO} {a : Option Nat} {Q : D → Prop} (h : Q (.bool false)) : tJ tNeq μ (onD a) (onD a) Q := tJ_of (by
  cases a with
  | none => exact h
  | some n => exact at_ (P := fun z => Q (.bool z)) (congrArg not (decide_eq_true (rfl : n = n))) h)
theorem GoodF.tot' {N : Nat} {gs : List Fr} {k : Nat} (h : GoodF N gs) (hl : gs.length ≤ k) : (cat gs).length ≤ 2000 * k := Nat.le_trans (cat_le gs 2000 fun f hf => (h f hf).2.2) (Nat.mul_le_mul_left _ hl)
theorem ex_list {gs : List Fr} {k : Nat} {g0 g1 : Fr} : (gs.map Fr.T).take k ++ [g1.T, g0.T] ++ (gs.map Fr.T).drop (k + 2) = (gs.take k ++ g1 :: g0 :: gs.drop (k + 2)).map Fr.T := by
  rw [List.map_append, List.map_cons, List.map_cons, List.map_take, List.map_drop, List.append_assoc]; rfl
theorem ex_good {N : Nat} {gs : List Fr} {k : Nat} {g0 g1 : Fr} (h : GoodF N gs) (h0 : g0 ∈ gs) (h1 : g1 ∈ gs) : GoodF N (gs.take k ++ g1 :: g0 :: gs.drop (k + 2)) := fun f hf => by
  rcases List.mem_append.mp hf with q | q
  · exact h f (List.mem_of_mem_take q)
  · rcases List.mem_cons.mp q with rfl | q
    · exact h _ h1
    · rcases List.mem_cons.mp q with rfl | q
      · exact h _ h0
      · exact h f (List.mem_of_mem_drop q)
theorem rowS_put {gs : List Fr} {k n : Nat} {f : Fr} (hn : n = (cat (gs.take k)).length) : rowS 0 (gs.take k ++ f :: gs.drop k) = rowS 0 (gs.take k) ++ ((rowS 0 [f]).map (·.sh n) ++ (rowS n (gs.drop k)).map (·.sh f.body.length)) := by
  subst hn
  rw [rowS_append, Nat.zero_add, rowS, rowS_shift]
  refine congrArg (rowS 0 (gs.take k) ++ ·) ?_
  show _ = (Sp.mk (0 + _) (0 + f.body.length + _) f.told f.blocks) :: _
  rw [Nat.zero_add, Nat.zero_add, Nat.add_comm f.body.length]; rfl
theorem dr_le {α : Type} {a : List α} {n k : Nat} (h : a.length ≤ k) : (a.drop n).length ≤ k := by rw [List.length_drop]; exact Nat.le_trans (Nat.sub_le _ _) h
theorem oj_val {A B : Option Nat} {C : D → List MO → Prop} {i j : Nat} {ρ : List (Option D)} {μ : List MO} {Ex} (hi : ρ[i]?.join = some (onD A)) (hj : ρ[j]?.join = some (onD B)) (h : C (onD (ojoin A B)) μ) :
    tIf (tOr (tTrue (t2 (tVar i) (tD .none) oIs)) (tOr (tTrue (t2 (tVar j) (tD .none) oIs)) (tB false))) (tD .none) (t2 (tVar i) (tVar j) tPlus) ρ μ C Ex := by
  refine need_of hi ?_
  cases A with
  | none => exact h
  | some a =>
    refine need_of hj ?_
    cases B with
    | none => exact h
    | some b => exact need_of hi (need_of hj h)
theorem idx_sub {l : List D} {a : Nat} {x : D} {Q : D → Prop} (h : 0 < a) (hl : l.length ≤ 1000000000) (e : l[a - 1]? = some x) (q : Q x) : idxL l (Int.ofNat a - 1) Q := by
  rw [show Int.ofNat a - 1 = Int.ofNat (a - 1) from (Int.ofNat_sub h).symm]
  exact guard_of (ble_of hl) (need_of e q)
theorem border_at {gs : List Fr} {k : Nat} (hk : k ≤ gs.length) (h0 : 0 < k) : ∃ u, (rowS 0 gs)[k - 1]? = some u ∧ (cat (gs.take k)).length = u.e := by
  have hl : (rowS 0 (gs.take k)).length = k := by rw [rowS_length, List.length_take]; exact Nat.min_eq_left hk
  obtain ⟨u, h1, h2⟩ := lastE_last (rowS 0 (gs.take k)) 0 fun q => by rw [q] at hl; exact absurd hl (Nat.ne_of_lt h0)
  rw [lastE_row, Nat.zero_add] at h2
  rw [hl, ← (rowS_take gs k hk).1, List.getElem?_take_of_lt (Nat.sub_lt h0 Nat.one_pos)] at h1
  exact ⟨u, h1, h2⟩
theorem l_exch {N : Nat} (O : ((GG prog w h₀ mg mb tabs tq)).Ok) (h__law_take : FK (GG prog w h₀ mg mb tabs tq) 2 377 cTk) (h__law_row : FK (GG prog w h₀ mg mb tabs tq) 2 420 cRow) (h__law_spans : FK (GG prog w h₀ mg mb tabs tq) 10 439 (cSpL N)) (h_content_size : FK (GG prog w h₀ mg mb tabs tq) 8 363 (cSize N)) (h__law_amount : FK (GG prog w h₀ mg mb tabs tq) 2 508 cAmt) : FK (GG prog w h₀ mg mb tabs tq) 12 515 ((cExch N)) :=
  FV_ct (LX O [⟨377, .fv 2 _ h__law_take⟩, ⟨420, .fv 2 _ h__law_row⟩, ⟨439, .fv 10 _ h__law_spans⟩, ⟨363, .fv 8 _ h_content_size⟩, ⟨508, .fv 2 _ h__law_amount⟩]) (defS 2 [] 3 (wSeq (wSet 2 (tCall (l1 (tVar 0) (l1 (t2 (tBi (l1 (tVar 1) l0) tLen) (tD (.int 1)) oSub) l0)) cTk)) (wSeq (wTg (gT [3, 4]) (tCall (l1 (t2 (t2 (tCut (tVar 1) (tD .none) (tVar 2)) (tList (l1 (t2 (tVar 1) (t2 (tVar 2) (tD (.int 1)) tPlus) tItem) (l1 (t2 (tVar 1) (tVar 2) tItem) l0))) tPlus) (tCut (tVar 1) (t2 (tVar 2) (tD (.int 2)) tPlus) (tD .none)) tPlus) l0) cRow)) (wSeq (wRet (vAnd (t2 (tCall (l1 (tVar 3) l0) ((cSpL N))) (tVar 4) oEq) (t2 (tCall (l1 (tVar 3) l0) ((cSize N))) (tCall (l1 (tVar 4) l0) cAmt) (tJ oEq)))) wSkip)))) [] [] (by with_unfolding_all rfl) (.simple rfl) (fun _ _ _ _ _ => .nil) fun x Q Ex h => by
    have hlm : (x.1.2.map Fr.T).length ≤ 10 := by rw [List.length_map]; exact x.2.2.1
    have hln : (x.1.2.map Fr.T).length = x.1.2.length := List.length_map _
    walk_at "gd"
    · exact ble_of (Nat.le_trans hlm (by decide))
    walk_at "wh"
    refine at_left (Q := fun z => Ct _ _ _ _ [_, .int z] _) (a := (x.1.2.map Fr.T).length) (b := 1) (by rw [hln]; exact Nat.le_trans (by decide) x.2.1) ?_
    refine .mk (⟨(x.1.1, (x.1.2.map Fr.T).length - 1), and_i (ble_of (by rw [hln]; exact Nat.le_sub_of_add_le x.2.1)) (ble_of (Nat.le_trans (Nat.sub_le _ _) (Nat.le_trans hlm (by decide))))⟩ : ITk) fun k j hk => ?_
    have hk1 : k + 1 < x.1.2.length := by have hk : k < (x.1.2.map Fr.T).length - 1 := hk; rw [hln] at hk; exact Nat.add_lt_of_lt_sub hk
    have hk0 : k < x.1.2.length := Nat.lt_of_succ_lt hk1
    have hgx := ex_good (k := k) x.2.2.2 (List.getElem_mem hk0) (List.getElem_mem hk1)
    have hgl : (x.1.2.take k ++ x.1.2[k + 1] :: x.1.2[k] :: x.1.2.drop (k + 2)).length ≤ 22 := app_le (tk_le x.2.2.1) (Nat.succ_le_succ (Nat.succ_le_succ (Nat.le_trans (Nat.le_of_eq List.length_drop) (Nat.le_trans (Nat.sub_le _ _) x.2.2.1)))) (show 10 + (10 + 1 + 1) ≤ 22 by decide)
    have hlen := hgx.tot' hgl
    have hb : ∀ {α : Type} {l : List α} {n m : Nat}, l.length ≤ n → n ≤ m → Nat.ble l.length m = true := fun h g => ble_of (Nat.le_trans h g)
    walk_at "gd"
    · exact hb hlm (by decide)
    walk_at "gd"
    · exact hb hlm (by decide)
    walk_at "wh"
    refine need_of (a := (x.1.2[k + 1]).T) (by rw [List.getElem?_map, List.getElem?_eq_getElem hk1]; rfl) ?_
    walk_at "gd"
    · exact hb hlm (by decide)
    walk_at "wh"
    refine need_of (a := (x.1.2[k]).T) (by rw [List.getElem?_map, List.getElem?_eq_getElem hk0]; rfl) ?_
    walk_at "gd"
    · exact ble_of (Nat.le_trans (Nat.add_le_add_right (tk_le (n := k) hlm) 2) (by decide))
    walk_at "gd"
    · exact hb hlm (by decide)
    have hd : ((x.1.2.map Fr.T).drop (k + 2)).length ≤ 10 := by rw [List.length_drop]; exact Nat.le_trans (Nat.sub_le _ _) hlm
    walk_at "gd"
    · exact ble_of (Nat.le_trans (Nat.add_le_add (app_le (tk_le (n := k) hlm) (Nat.le_refl 2) (Nat.le_refl _)) hd) (show 10 + 2 + 10 ≤ 1000000 by decide))
    walk_at "gd"
    · exact at_ (P := fun l => (clDs l && true) = true) ex_list (and_i (clDs_map clD_frT _) rfl)
    walk_at "wh"
    refine at_ (P := fun l => Ct _ _ _ _ [.list l] _) ex_list ?_
    refine .mk (⟨_, Nat.le_trans hgl (by decide), Nat.le_trans hlen (by decide)⟩ : IRow) ?_
    have hrow := stp_row0 hgx.good
    walk_at "wh"
    refine .mk (⟨_, Nat.le_trans hlen (by decide), _, none, hrow⟩ : ISp N) ?_
    walk_at "gd"
    · exact oks_sps _
    walk_at "gd"
    · exact oks_sps _
    walk_at "wh"
    refine br_t (eql rfl (oks_sps _)) ?_
    walk_at "wh"
    refine .mk (⟨⟨_, Nat.le_trans hlen (by decide), _, none, hrow⟩, rfl⟩ : ISz N) ?_
    walk_at "gd"
    · exact and_i (clDs_map clD_spT _) rfl
    walk_at "wh"
    refine .mk (⟨_, Nat.le_trans (Nat.le_of_eq (rowS_length _ _)) (Nat.le_trans hgl (by decide))⟩ : IAmt) ?_
    refine eq_on ?_
    walk_at "wh"
    exact h j
theorem l_put {N : Nat} (O : ((GG prog w h₀ mg mb tabs tq)).Ok) (h__law_take : FK (GG prog w h₀ mg mb tabs tq) 2 377 cTk) (h__law_frame : FK (GG prog w h₀ mg mb tabs tq) 6 406 (cFrame N)) (h__law_led : FK (GG prog w h₀ mg mb tabs tq) 2 451 cLed) (h__law_spans : FK (GG prog w h₀ mg mb tabs tq) 10 439 (cSpL N)) (h_content_size : FK (GG prog w h₀ mg mb tabs tq) 8 363 (cSize N)) (h__law_amount : FK (GG prog w h₀ mg mb tabs tq) 2 508 cAmt) : FK (GG prog w h₀ mg mb tabs tq) 12 522 ((cPut N)) :=
  FV_ct (LX O [⟨377, .fv 2 _ h__law_take⟩, ⟨406, .fv 6 _ h__law_frame⟩, ⟨451, .fv 2 _ h__law_led⟩, ⟨439, .fv 10 _ h__law_spans⟩, ⟨363, .fv 8 _ h_content_size⟩, ⟨508, .fv 2 _ h__law_amount⟩]) (defS 3 [] 6 (wSeq (wTg (gTS [4, 3]) (tTup (l1 (t2 (tCall (l1 (tVar 0) (l1 (tD (.bytes [])) l0)) ((cFrame N))) (tD (.int 0)) tItem) (l1 (tCall (l1 (tVar 0) (l1 (t2 (tBi (l1 (tVar 2) l0) tLen) (tD (.int 1)) tPlus) l0)) cTk) l0)))) (wSeq (wSet 5 (eJ (tIf (tTrue (t2 (tVar 4) (tD (.int 0)) oGt)) (t2 (t2 (tVar 2) (t2 (tVar 4) (tD (.int 1)) oSub) tItem) (tD (.int 1)) tItem) (tD (.int 0))))) (wSeq (wTg (gTS [8, 7, 6]) (tTup (l1 (t2 (t2 (tCut (tVar 1) (tD .none) (tVar 5)) (tVar 3) tPlus) (tCut (tVar 1) (tVar 5) (tD .none)) tPlus) (l1 (tCall (l1 (tVar 3) l0) ((cSize N))) (l1 (tCall (l1 (tVar 2) l0) cAmt) l0))))) (wSeq (wIf (tTrue (t2 (tCall (l1 (tVar 6) l0) ((cSize N))) (eJ (tIf (tOr (tTrue (t2 (tVar 7) (tD .none) oIs)) (tOr (tTrue (t2 (tVar 8) (tD .none) oIs)) (tB false))) (tD .none) (t2 (tVar 7) (tVar 8) tPlus))) (tJ tNeq))) (wSeq (wRet (tD (.bool false))) wSkip) wSkip) (wSeq (wRet (t2 (tCall (l1 (tVar 6) l0) ((cSpL N))) (t2 (t2 (tCut (tVar 2) (tD .none) (tVar 4)) (tCall (l1 (tCall (l1 (tVar 3) l0) ((cSpL N))) (l1 (tVar 5) l0)) cLed) tPlus) (tCall (l1 (tCut (tVar 2) (tVar 4) (tD .none)) (l1 (tBi (l1 (tVar 3) l0) tLen) l0)) cLed) tPlus) oEq)) wSkip)))))) [] [] (by with_unfolding_all rfl) (.simple rfl) (fun _ _ _ _ _ => .nil) fun x Q Ex h => by
    have hlr : ((rowS 0 x.1.2).map Sp.T).length = x.1.2.length := by rw [List.length_map, rowS_length]
    have hlm : ((rowS 0 x.1.2).map Sp.T).length ≤ 10 := Nat.le_trans (Nat.le_of_eq hlr) x.2.1
    walk_at "wh"
    refine .mk (⟨(x.1.1, []), Nat.zero_le _⟩ : IBlk) fun f j hf h8 hfl => ?_
    have hfl : f.body.length ≤ 200 := hfl
    walk_at "gd"
    · exact ble_of (Nat.le_trans hlm (by decide))
    walk_at "wh"
    refine .mk (⟨(j, ((rowS 0 x.1.2).map Sp.T).length + 1), and_i (ble_of (Nat.succ_le_succ (Nat.zero_le _))) (ble_of (Nat.le_trans (Nat.succ_le_succ hlm) (by decide)))⟩ : ITk) fun k j hk => ?_
    have hk : k ≤ x.1.2.length := by rw [← hlr]; exact Nat.le_of_lt_succ hk
    have hrt := rowS_take x.1.2 k hk
    have hbl : (cat (x.1.2.take k)).length ≤ 40000 := (show GoodF N (x.1.2.take k) from fun f hf => x.2.2 f (List.mem_of_mem_take hf)).tot (Nat.le_trans (tk_le x.2.1) (by decide))
    have hcl : (cat x.1.2).length ≤ 40000 := x.2.2.tot (Nat.le_trans x.2.1 (by decide))
    have hcg : cat x.1.2 = cat (x.1.2.take k) ++ cat (x.1.2.drop k) := by rw [← cat_append, List.take_append_drop]
    walk_at "wh"
    refine join_e (σ := { n : Nat // n = (cat (x.1.2.take k)).length }) (fun n => (nD n.1, [jm j])) (fun C hC => ?_) (fun n => ?_)
    · walk_at "wh"
      refine br_of (fun e => ?_) (fun e => ?_)
      · have hk0 : k - 1 < x.1.2.length := Nat.lt_of_lt_of_le (Nat.sub_lt (lt_t e) Nat.one_pos) hk
        obtain ⟨u, hu1, hu2⟩ := border_at hk (lt_t e)
        walk_at "wh"
        refine idx_sub (x := u.T) (lt_t e) (Nat.le_trans hlm (by decide)) (by rw [List.getElem?_map, hu1]; rfl) ?_
        walk_at "wh"
        exact hC ⟨u.e, hu2.symm⟩
      · walk_at "wh"
        exact hC ⟨0, by rw [Nat.le_zero.mp (lt_f e)]; rfl⟩
    generalize hwd : x.1.2.take k ++ f :: x.1.2.drop k = wd
    have hcw : cat wd = cat (x.1.2.take k) ++ (f.body ++ cat (x.1.2.drop k)) := by rw [← hwd, cat_append, cat]
    have hgw : ∀ g ∈ wd, Good N g := fun g hg => by
      rw [← hwd] at hg
      rcases List.mem_append.mp hg with q | q
      · exact (x.2.2 g (List.mem_of_mem_take q)).1
      · rcases List.mem_cons.mp q with rfl | q
        · exact hf
        · exact (x.2.2 g (List.mem_of_mem_drop q)).1
    have hwl : (cat wd).length ≤ 50000 := by
      have := congrArg List.length hcg
      rw [List.length_append] at this
      rw [hcw, List.length_append, List.length_append]; lia
    have hxs : Stp N true 0 f.body (rowS 0 [f]) none := by
      have := stp_row0 (N := N) (gs := [f]) fun g hg => by rw [List.mem_singleton.mp hg]; exact hf
      rw [show cat [f] = f.body from List.append_nil _] at this
      exact this
    have hrow := stp_row0 hgw
    have hamt : amt ((rowS 0 wd).map (·.told)) = ojoin (amt ((rowS 0 [f]).map (·.told))) (amt ((rowS 0 x.1.2).map (·.told))) := by
      have := amt_insert ((x.1.2.take k).map (·.told)) [f.told] ((x.1.2.drop k).map (·.told))
      rw [← List.map_append, List.take_append_drop] at this
      rw [rowS_told, rowS_told, rowS_told, ← hwd, List.map_append]; exact this
    have hcn : cat wd = (cat x.1.2).take n.1 ++ f.body ++ (cat x.1.2).drop n.1 := by
      rw [n.2, hcw, hcg, List.take_left, List.drop_left, List.append_assoc]
    rw [hcn] at hrow hwl
    walk_at "gd"
    · exact ble_of (Nat.le_trans hcl (by decide))
    walk_at "gd"
    · exact cat_ok (tk_le (Nat.le_trans hcl (by decide))) (Nat.le_trans hfl (by decide))
    walk_at "gd"
    · exact ble_of (Nat.le_trans hcl (by decide))
    walk_at "gd"
    · exact cat_ok (app_le (tk_le (n := n.1) hcl) hfl (show 40000 + 200 ≤ 8000000 by decide)) (dr_le (Nat.le_trans hcl (by decide)))
    walk_at "wh"
    refine .mk (⟨⟨f.body, Nat.le_trans hfl (by decide), rowS 0 [f], none, hxs⟩, rfl⟩ : ISz N) ?_
    walk_at "gd"
    · exact and_i (clDs_map clD_spT _) rfl
    walk_at "wh"
    refine .mk (⟨rowS 0 x.1.2, Nat.le_trans (Nat.le_of_eq (rowS_length _ _)) (Nat.le_trans x.2.1 (by decide))⟩ : IAmt) ?_
    walk_at "wh"
    refine .mk (⟨⟨_, Nat.le_trans hwl (by decide), rowS 0 wd, none, hrow⟩, rfl⟩ : ISz N) ?_
    walk_at "wh"
    refine join_e (σ := Unit) (fun _ => (onD (ojoin (amt ((rowS 0 [f]).map (·.told))) (amt ((rowS 0 x.1.2).map (·.told)))), [jm j])) (fun C hC => ?_) (fun _ => ?_)
    · exact oj_val rfl rfl (hC ())
    refine at_ (P := fun z => tJ tNeq _ (onD z) _ _) hamt (neq_on ?_)
    walk_at "wh"
    refine .mk (⟨_, Nat.le_trans hwl (by decide), rowS 0 wd, none, hrow⟩ : ISp N) ?_
    walk_at "gd"
    · exact ble_of (Nat.le_trans hlm (by decide))
    walk_at "wh"
    refine .mk (⟨f.body, Nat.le_trans hfl (by decide), rowS 0 [f], none, hxs⟩ : ISp N) ?_
    walk_at "gd"
    · exact and_i (clDs_map clD_spT _) rfl
    walk_at "wh"
    refine .mk (⟨(rowS 0 [f], n.1), (by decide : 1 ≤ 1000000)⟩ : ILed) ?_
    walk_at "gd"
    · exact ble_of (Nat.le_trans (Nat.add_le_add_right (tk_le (n := k) hlm) 1) (by decide))
    walk_at "gd"
    · exact ble_of (Nat.le_trans hlm (by decide))
    walk_at "gd"
    · exact ble_of (Nat.le_trans hfl (by decide))
    have hdm : ((rowS 0 x.1.2).map Sp.T).drop k = (rowS n.1 (x.1.2.drop k)).map Sp.T := by rw [← List.map_drop, hrt.2, n.2]
    have htm : ((rowS 0 x.1.2).map Sp.T).take k = (rowS 0 (x.1.2.take k)).map Sp.T := by rw [← List.map_take, hrt.1]
    have hdl : (rowS n.1 (x.1.2.drop k)).length ≤ 10 := by rw [rowS_length]; exact dr_le x.2.1
    walk_at "gd"
    · exact at_ (P := fun l => (clDs l && (true && true)) = true) hdm (and_i (clDs_map clD_spT _) rfl)
    walk_at "wh"
    refine at_ (P := fun l => Ct _ _ _ _ [.list l, _] _) hdm ?_
    refine .mk (⟨(rowS n.1 (x.1.2.drop k), f.body.length), Nat.le_trans hdl (by decide)⟩ : ILed) ?_
    walk_at "gd"
    · rw [List.length_map, List.length_map]; exact ble_of (Nat.le_trans (Nat.add_le_add (app_le (tk_le (n := k) hlm) (Nat.le_refl 1) (Nat.le_refl _)) hdl) (show 10 + 1 + 10 ≤ 1000000 by decide))
    have heq : (rowS 0 wd).map Sp.T = ((rowS 0 x.1.2).map Sp.T).take k ++ ((rowS 0 [f]).map (·.sh n.1)).map Sp.T ++ ((rowS n.1 (x.1.2.drop k)).map (·.sh f.body.length)).map Sp.T := by
      rw [htm, ← List.map_append, ← List.map_append, ← hwd, rowS_put n.2, List.append_assoc]
    walk_at "gd"
    · exact oks_sps _
    walk_at "gd"
    · exact at_ (P := fun l => okDs 31 l = true) heq.symm (oks_sps _)
    walk_at "wh"
    exact at_ (P := fun z => Q (.bool z) [jm j]) (eql heq (oks_sps _)) (h j)
structure IMid (N : Nat) where
  gs : List Fr
  s : Sp
  hl : gs.length ≤ 10
  hg : GoodF N gs
  hs : s ∈ rowS 0 gs
abbrev cMid (N : Nat) : PF := sp (fun x : IMid N => ([.bytes (cat x.gs), x.s.T], [])) fun x Q _ => Q (.bool true) []
theorem ne_r {n m : Nat} (h : n = m) : negB true (eqI (.ofNat n) (.ofNat m)) = false := congrArg not (decide_eq_true h)
theorem mid_get {l body suf : List UInt8} {b : Nat} (h : l.drop b = body ++ suf) (h8 : 0 < body.length) : (l.getD b 0).toNat = octN body := by
  unfold octN
  rw [List.getD_eq_getElem?_getD, List.getD_eq_getElem?_getD, ← List.getElem?_append_left (l₂ := suf) h8, ← h, List.getElem?_drop]; rfl
theorem mid_cut {l body suf : List UInt8} {b e : Nat} (h : l.drop b = body ++ suf) (he : e = b + body.length) (h8 : 8 ≤ body.length) : (l.drop (b + 8)).take (e - (b + 8)) = body.drop 8 := by
  rw [← List.drop_drop, h, List.drop_append_of_le_length h8, he, Nat.add_sub_add_left]
  exact List.take_left' List.length_drop
theorem sub80 {a b : Nat} (h : a = b) (h8 : 80 ≤ b) : eqI (.ofNat (b - 80)) (Int.ofNat a - 80) = true := by
  rw [h, show Int.ofNat b - 80 = Int.ofNat (b - 80) from (Int.ofNat_sub h8).symm]; exact decide_eq_true rfl
theorem mid_at {N : Nat} (x : IMid N) : ∃ f : Fr, Good N f ∧ x.s.e = x.s.b + f.body.length ∧ x.s.told = f.told ∧ x.s.blocks = f.blocks ∧ x.s.e ≤ (cat x.gs).length ∧ ∃ suf, (cat x.gs).drop x.s.b = f.body ++ suf := by
  obtain ⟨f, h1, h2, h3, h4, _, h5, pre, suf, h6, h7⟩ := rowS_in x.gs 0 x.s x.hs
  rw [Nat.zero_add] at h5 h7
  exact ⟨f, (x.hg f h1).1, h2, h3, h4, h5, suf, by rw [h6, h7, List.drop_left]⟩
theorem Rn_ok {L : Buf} {α : Type} {p : Pr α} {c : Cur L} {a : α} {n : Nat} {K : α → Cur L → Prop} {E : Exn → Prop} (h : p.run (L.1.drop c.i) = .ok a n) (hn : c.i + n ≤ L.1.length) (k : ∀ c' : Cur L, c'.i = c.i + n → K a c') : Rn p c K E :=
  Rn_of (fun b m q => by cases h.symm.trans q; exact k _ (Nat.min_eq_left hn)) fun e q => nomatch h.symm.trans q
theorem Rn_err {L : Buf} {α : Type} {p : Pr α} {c : Cur L} {e : Exn} {K : α → Cur L → Prop} {E : Exn → Prop} (h : p.run (L.1.drop c.i) = .err e) (k : E e) : Rn p c K E :=
  Rn_of (fun b m q => nomatch h.symm.trans q) fun e' q => by cases h.symm.trans q; exact k
theorem l_mid {N : Nat} (O : ((GG prog w h₀ mg mb tabs tq)).Ok) (h_Octets___init__ : FK (GG prog w h₀ mg mb tabs tq) 3 150 cInitO) (h_measure : FK (GG prog w h₀ mg mb tabs tq) 6 349 (cMeas N)) (h__law_told : FK (GG prog w h₀ mg mb tabs tq) 3 434 cToldL) (h_read_skippable : FK (GG prog w h₀ mg mb tabs tq) 5 313 cSkip) (hw : ∀ b, FW (GG prog w h₀ mg mb tabs tq) b 427 words) {P : Addr} (hP : (528, P) ∈ tabs) (hq : tq P = ("_law_midst_right.<locals>." : Str) ++ ("<lambda>" : Str)) : FK (GG prog w h₀ mg mb tabs tq) 12 529 ((cMid N)) :=
  FV_ct (LX O [⟨209, .nh .octets _ 3 _ rfl newOk_octets h_Octets___init__⟩, ⟨349, .fv 6 _ h_measure⟩, ⟨434, .fv 3 _ h__law_told⟩, ⟨313, .fv 5 _ h_read_skippable⟩, ⟨427, .fw _ hw rfl⟩, ⟨528, .tab P "_law_midst_right.<locals>." hP hq⟩]) (defS 2 [] 2 (wSeq (wSet 3 (tNewH .octets (l1 (tVar 0) (l1 (t2 (tVar 1) (tD (.int 0)) tItem) l0)) cInitO)) (wSeq (wIf (tOr (tTrue (t2 (tCall (l1 (tCall (l1 (tVar 3) (l1 (tBi (l1 (t2 (t2 (tVar 1) (tD (.int 0)) tItem) (tD (.int 0)) oEq) l0) tIntB) l0)) ((cMeas N))) l0) cToldL) (tVar 1) tNeq)) (tOr (tTrue (t2 (tAttr .octets 2 (tVar 3)) (t2 (tVar 1) (tD (.int 1)) tItem) tNeq)) (tB false))) (wSeq (wRet (tD (.bool false))) wSkip) wSkip) (wSeq (wSet 3 (tNewH .octets (l1 (tVar 0) (l1 (t2 (tVar 1) (tD (.int 0)) tItem) l0)) cInitO)) (wSeq (wSet 2 (tWord ([some 3]) (tCall (l1 (tVar 0) l0) cSkip) words)) (wSeq (wIf (tTrue (t2 (t2 (tVar 1) (tD (.int 2)) tItem) (tD .none) oIsn)) (wSeq (wRet (t2 (tVar 2) (tD (.str "header")) oEq)) wSkip) wSkip) (wSeq (wRet (vAnd (t2 (tVar 2) (tTup (l1 (t2 (t2 (tVar 0) (t2 (tVar 1) (tD (.int 0)) tItem) tItem) (tD (.int 80)) oSub) (l1 (tCut (tVar 0) (t2 (t2 (tVar 1) (tD (.int 0)) tItem) (tD (.int 8)) tPlus) (t2 (tVar 1) (tD (.int 1)) tItem)) l0))) oEq) (t2 (tAttr .octets 2 (tVar 3)) (t2 (tVar 1) (tD (.int 1)) tItem) oEq))) wSkip))))))) [] [] rfl (.simple rfl) (fun _ _ _ _ _ => .nil) fun x Q Ex h => by
    obtain ⟨f, hf, he, htold, hbl, hle, suf, hdrop⟩ := mid_at x
    have htot : (cat x.gs).length ≤ 40000 := x.hg.tot (Nat.le_trans x.hl (by decide))
    have hb : x.s.b ≤ (cat x.gs).length := Nat.le_trans (by rw [he]; exact Nat.le_add_right _ _) hle
    have hrun : ∀ first, (measP N first).run ((cat x.gs).drop x.s.b) = .ok (x.s.told, x.s.blocks) f.body.length := fun first => by rw [hdrop, htold, hbl]; exact hf.run suf
    have hle' : x.s.b + f.body.length ≤ (cat x.gs).length := he ▸ hle
    walk_at "wh"
    refine .mk (⟨⟨cat x.gs, Nat.le_trans htot (by decide)⟩, ⟨x.s.b, hb⟩⟩ : ICur) ⟨rfl, ?_⟩
    walk_at "wh"
    refine .mk (⟨cuN ⟨x.s.b, hb⟩ _, Nat.le_trans htot (by decide)⟩ : IMeas) (Rn_ok (hrun _) hle' fun c hc => ?_)
    have hc : c.i = x.s.e := hc.trans he.symm
    walk_at "gd"
    · exact and_i (clD_sp _ _ _) rfl
    walk_at "wh"
    refine at_ (P := fun z => Ct _ _ _ _ [spI x.s.b z _] _) hc ?_
    refine .mk x.s ?_
    walk_at "gd"
    · exact ok_spT 29 x.s
    walk_at "gd"
    · exact ok_spT 29 x.s
    walk_at "wh"
    refine br_f (eqv_same (d := x.s.T) (ok_spT 29 x.s) true) ?_
    walk_at "wh"
    refine br_f (ne_r hc) ?_
    walk_at "wh"
    refine .mk (⟨⟨cat x.gs, Nat.le_trans htot (by decide)⟩, ⟨x.s.b, hb⟩⟩ : ICur) ⟨rfl, ?_⟩
    walk_at "wh"
    cases ht : f.told with
    | some hd =>
      refine .mk (cuC ⟨x.s.b, hb⟩) (Rn_err (e := .header) (by rw [hdrop]; exact good_some hf ht suf) fun q => ⟨_, wd_word (fun q => nomatch q), ?_⟩)
      walk_at "wh"
      refine need_of (a := false) (by rw [htold, ht]; rfl) ?_
      walk_at "gd"
      · exact strOk_word .header
      walk_at "gd"
      · exact strOk_word .header
      walk_at "wh"
      exact at_ (P := fun z => Q (.bool z) []) (eqs (a := word .header) rfl (strOk_word .header)) h
    | none =>
      obtain ⟨g1, g2, g3⟩ := good_none hf ht suf
      refine .mk (cuC ⟨x.s.b, hb⟩) (Rn_ok (by rw [hdrop]; exact g1) hle' fun c hc => ?_)
      have hc : c.i = x.s.e := hc.trans he.symm
      have hge := mid_get hdrop (Nat.lt_of_lt_of_le (by decide) g3)
      walk_at "wh"
      refine need_of (a := true) (by rw [htold, ht]; rfl) ?_
      walk_at "wh"
      refine ⟨Nat.lt_of_lt_of_le (Nat.lt_add_of_pos_right (Nat.lt_of_lt_of_le (by decide) g3)) hle', Nat.le_trans htot (by decide), ?_⟩
      walk_at "gd"
      · exact ble_of (Nat.le_trans htot (by decide))
      refine ⟨rfl, ?_⟩
      walk_at "wh"
      refine br_t (and_i (sub80 hge g2) (decide_eq_true (mid_cut hdrop he g3).symm)) ?_
      walk_at "wh"
      exact at_ (P := fun z => Q (.bool z) []) (decide_eq_true hc) h
def TopP (N : Nat) : PS := wSeq (wSet 1 (tCallN (l1 (tVar 0) l0) cJar)) (wSeq (wJ (wSet 2 (vOr (t2 (tBi (l1 (tVar 0) l0) tLen) (tD (.int 1)) oGt) (t2 (t2 (tVar 1) (tD (.int 0)) tItem) (tD (.int 0)) oGt)))) (wSeq (wSet 3 (tCall (l1 (tVar 1) (l1 (eJ (tIf (tTrue (tVar 2)) (t2 (tD (.int 2)) (tCall (l1 (tVar 1) (l1 (tD (.int 3)) l0)) cTk) tPlus) (tD (.int 2)))) l0)) ((cFrames N)))) (wSeq (wTg (gT [4, 5]) (tCall (l1 (tVar 3) l0) cRow)) (wSeq (wIf (tOr (tTrue (t2 (tCall (l1 (tVar 4) l0) ((cSpL N))) (tVar 5) (tJ tNeq))) (tOr (tTrue (t2 (tCall (l1 (tVar 4) l0) ((cSize N))) (tCall (l1 (tVar 5) l0) cAmt) (tJ tNeq))) (tB false))) (wSeq (wRet (tD (.bool false))) wSkip) wSkip) (wSeq (wFor (iRange (eJ (tIf (tTrue (tVar 2)) (tD (.int 2)) (tD (.int 1))))) (gN 6) (wSeq (wIf (tNot (tTrue (tCall (l1 (tVar 4) (l1 (tVar 5) (l1 (tD (.str "end")) (l1 (tCall (l1 (tVar 1) (l1 (tVar 5) (l1 (tBi (l1 (tVar 4) l0) tLen) l0))) cPlace) l0)))) ((cBR N))))) (wSeq (wRet (tD (.bool false))) wSkip) wSkip) wSkip)) (wSeq (wTg (gT [7, 8]) (tCall (l1 (tVar 1) (l1 (t2 (tCall (l1 (tVar 1) (l1 (tD (.bytes [])) l0)) ((cFrame N))) (tD (.int 0)) tItem) l0)) ((cRest N)))) (wSeq (wIf (tOr (tNot (tTrue (tCall (l1 (tVar 4) (l1 (tVar 5) (l1 (tVar 7) (l1 (tVar 8) l0)))) ((cRR N))))) (tOr (tNot (tTrue (tCall (l1 (tVar 1) (l1 (tVar 4) (l1 (tVar 5) (l1 (tVar 2) l0)))) ((cBentR N))))) (tB false))) (wSeq (wRet (tD (.bool false))) wSkip) wSkip) (wSeq (wIf (tNot (tTrue (tVar 2))) (wSeq (wRet (tCall (l1 (tVar 4) (l1 (t2 (tVar 5) (tCall (l1 (tVar 1) (l1 (tD (.int 2)) l0)) cTk) tItem) l0)) ((cMid N)))) wSkip) wSkip) (wSeq (wIf (tOr (tNot (tTrue (tCall (l1 (tVar 1) (l1 (tVar 3) l0)) ((cExch N))))) (tOr (tNot (tTrue (tCall (l1 (tVar 1) (l1 (tVar 4) (l1 (tVar 5) l0))) ((cPut N))))) (tB false))) (wSeq (wRet (tD (.bool false))) wSkip) wSkip) (wSeq (wFor (iList (tVar 5)) (gN 9) (wSeq (wIf (tNot (tTrue (tCall (l1 (tVar 4) (l1 (tVar 9) l0)) ((cMid N))))) (wSeq (wRet (tD (.bool false))) wSkip) wSkip) wSkip)) (wSeq (wRet (tD (.bool true))) wSkip)))))))))))
theorem clD_wd {wd : D} (h : wd = .none ∨ ∃ s, wd = .str s) : clD wd = true := by
  rcases h with rfl | ⟨_, rfl⟩ <;> rfl
theorem law_vc {N : Nat} {cells : List Int} (hc : cells.length ≤ 63) : TopP N (some (.list (cells.map D.int)) :: List.replicate 9 none) [] (fun _ _ => False) (fun d _ => d = .bool true) (fun _ _ => False) := by
  have hlc : (cells.map D.int).length ≤ 63 := by rw [List.length_map]; exact hc
  unfold TopP
  walk_at "gd"
  · exact and_i (clDs_map (fun _ => rfl) _) rfl
  walk_at "wh"
  refine .mk (⟨cells, Nat.le_trans hc (by decide)⟩ : IJar) fun j => ?_
  walk_at "wh"
  refine join (σ := Bool) (fun d => ([some (.list (cells.map D.int)), some (.hl 0), some (.bool d), none, none, none, none, none, none, none], [jm j])) (fun C hC => ?_) (fun deep => ?_)
  · walk_at "gd"
    · exact ble_of (Nat.le_trans hlc (by decide))
    walk_at "wh"
    refine br_of (fun e => ?_) (fun e => ?_)
    · walk_at "wh"
      exact hC _
    · walk_at "wh"
      exact hC _
  walk_at "wh"
  refine join_e (σ := { s : Nat × J // 2 ≤ s.1 ∧ s.1 ≤ 4 }) (fun s => (nD s.1.1, [jm s.1.2])) (fun C hC => ?_) (fun n => ?_)
  · walk_at "wh"
    refine br_of (fun e => ?_) (fun e => ?_)
    · walk_at "wh"
      refine .mk (⟨(j, 3), rfl⟩ : ITk) fun c j hc => ?_
      walk_at "wh"
      exact hC ⟨(2 + c, j), Nat.le_add_right _ _, Nat.add_le_add_left (Nat.le_of_lt_succ hc) 2⟩
    · walk_at "wh"
      exact hC ⟨(2, j), Nat.le_refl _, (by decide : 2 ≤ 4)⟩
  walk_at "wh"
  refine .mk (⟨(n.1.2, n.1.1), Nat.le_trans n.2.2 (by decide)⟩ : IFrs) fun gs j hgl hg => ?_
  have hgl : gs.length = n.1.1 := hgl
  have hgl4 : gs.length ≤ 4 := Nat.le_trans (Nat.le_of_eq hgl) n.2.2
  have hgl2 : 2 ≤ gs.length := Nat.le_trans n.2.1 (Nat.le_of_eq hgl.symm)
  have hne : gs ≠ [] := fun q => by rw [q] at hgl2; exact absurd hgl2 (by decide)
  have htot : (cat gs).length ≤ 8000 := hg.tot' hgl4
  have hrl : (rowS 0 gs).length ≤ 4 := Nat.le_trans (Nat.le_of_eq (rowS_length _ _)) hgl4
  have hrow := stp_row0 hg.good
  have hm : (cat gs).length ≤ 1000000 := Nat.le_trans htot (by decide)
  walk_at "gd"
  · exact and_i (clDs_map clD_frT _) rfl
  walk_at "wh"
  refine .mk (⟨gs, Nat.le_trans hgl4 (by decide), hm⟩ : IRow) ?_
  walk_at "wh"
  refine .mk (⟨cat gs, hm, rowS 0 gs, none, hrow⟩ : ISp N) ?_
  refine neq_same (oks_sps _) ?_
  walk_at "wh"
  refine .mk (⟨⟨cat gs, hm, rowS 0 gs, none, hrow⟩, rfl⟩ : ISz N) ?_
  walk_at "gd"
  · exact and_i (clDs_map clD_spT _) rfl
  walk_at "wh"
  refine .mk (⟨rowS 0 gs, Nat.le_trans hrl (by decide)⟩ : IAmt) ?_
  refine neq_on ?_
  walk_at "wh"
  refine join_e (σ := { n : Nat // n ≤ 2 }) (fun n => (nD n.1, [jm j])) (fun C hC => ?_) (fun m => ?_)
  · walk_at "wh"
    refine br_of (fun e => ?_) (fun e => ?_)
    · walk_at "wh"
      exact hC ⟨2, Nat.le_refl _⟩
    · walk_at "wh"
      exact hC ⟨1, by decide⟩
  refine ⟨Nat.le_trans m.2 (by decide), ?_⟩
  refine for_range (σ := fun _ => J × Option D) (fun i s => ([some (.list (cells.map D.int)), some (.hl 0), some (.bool deep), some (frsD gs), some (.bytes (cat gs)), some (spsD (rowS 0 gs)), s.2, none, none, none], [jm s.1])) (fun i s C hi hC => ?_) (fun s1 => ?_) (j, none)
  · walk_at "gd"
    · exact ble_of (Nat.le_trans htot (by decide))
    walk_at "gd"
    · exact and_i (clDs_map clD_spT _) rfl
    walk_at "wh"
    refine .mk (⟨(s.1, rowS 0 gs, (cat gs).length), fun s hs => (hrow.piece1 hs).2.2.2, Nat.le_trans hrl (by decide), hm, fun s hs => (hrow.piece1 hs).2.2.1⟩ : IPl) fun c j hc => ?_
    walk_at "gd"
    · exact and_i rfl (and_i (clDs_map clD_spT _) rfl)
    walk_at "wh"
    refine .mk (⟨(⟨cat gs, hm, rowS 0 gs, none, hrow⟩, c), hc⟩ : IBR N) ?_
    walk_at "wh"
    exact hC (j, _)
  walk_at "wh"
  refine .mk (⟨(s1.1, []), Nat.zero_le _⟩ : IBlk) fun f j hf h8 hfl => ?_
  have hfl : f.body.length ≤ 200 := hfl
  walk_at "wh"
  refine .mk (⟨(j, f), hf, h8, Nat.le_trans hfl (by decide)⟩ : IRest N) fun rest wd j hwd hrs hws => ?_
  walk_at "gd"
  · exact and_i rfl (and_i (clDs_map clD_spT _) (and_i rfl (and_i (clD_wd hws) rfl)))
  walk_at "wh"
  refine .mk (⟨gs, rest, wd, hne, hg.good, Nat.le_trans (Nat.add_le_add htot hrs) (by decide), hwd⟩ : IRR N) ?_
  walk_at "gd"
  · exact and_i rfl (and_i (clDs_map clD_spT _) rfl)
  walk_at "wh"
  refine .mk (⟨j, gs, deep, hne, fun f hf => ⟨(hg f hf).1, (hg f hf).2.1⟩, Nat.le_trans htot (by decide)⟩ : IBentR N) fun j => ?_
  walk_at "wh"
  refine br_of (fun e => ?_) (fun e => ?_)
  · walk_at "wh"
    refine .mk (⟨(j, 2), rfl⟩ : ITk) fun c j hc => ?_
    have hc : c < (rowS 0 gs).length := by rw [rowS_length]; exact Nat.lt_of_lt_of_le hc hgl2
    walk_at "gd"
    · rw [List.length_map]; exact ble_of (Nat.le_trans hrl (by decide))
    walk_at "wh"
    refine need_of (a := ((rowS 0 gs)[c]).T) (by rw [List.getElem?_map, List.getElem?_eq_getElem hc]; rfl) ?_
    walk_at "gd"
    · exact and_i rfl (and_i (clD_spT _) rfl)
    exact .mk (⟨gs, (rowS 0 gs)[c], Nat.le_trans hgl4 (by decide), hg, List.getElem_mem hc⟩ : IMid N) rfl
  walk_at "gd"
  · exact and_i (clDs_map clD_frT _) rfl
  walk_at "wh"
  refine .mk (⟨(j, gs), hgl2, Nat.le_trans hgl4 (by decide), hg⟩ : IExch N) fun j => ?_
  walk_at "gd"
  · exact and_i rfl (and_i (clDs_map clD_spT _) rfl)
  walk_at "wh"
  refine .mk (⟨(j, gs), Nat.le_trans hgl4 (by decide), hg⟩ : IPut N) fun j => ?_
  walk_at "wh"
  refine for_map (σ := fun _ => Option D) (fun i s => ([some (.list (cells.map D.int)), some (.hl 0), some (.bool deep), some (frsD gs), some (.bytes (cat gs)), some (spsD (rowS 0 gs)), s1.2, some (.bytes rest), some wd, s], [jm j])) (fun i s a C e hC => ?_) (fun s => ?_) none
  · walk_at "gd"
    · exact and_i rfl (and_i (clD_spT _) rfl)
    walk_at "wh"
    refine .mk (⟨gs, a, Nat.le_trans hgl4 (by decide), hg, List.mem_of_getElem? e⟩ : IMid N) ?_
    walk_at "wh"
    exact hC _
  walk_at "wh"
  rfl
def bodyOf : Option Obj → List Stmt
  | some ⟨_, _, .func fd, _⟩ => (match fd.body with | .stmts b => b | _ => [])
  | _ => []
def scopeOf : Option Obj → Scope
  | some ⟨_, _, .func fd, _⟩ => fd.scope
  | _ => { kind := .function, names := [], isGenerator := false, isCoroutine := false }
theorem sb_law {N : Nat} (O : ((GG prog w h₀ mg mb tabs tq)).Ok) (h__law_jar : FN (GG prog w h₀ mg mb tabs tq) 2 370 cJar) (h__law_take : FK (GG prog w h₀ mg mb tabs tq) 2 377 cTk) (h__law_frames : FK (GG prog w h₀ mg mb tabs tq) 7 413 (cFrames N)) (h__law_row : FK (GG prog w h₀ mg mb tabs tq) 2 420 cRow) (h__law_spans : FK (GG prog w h₀ mg mb tabs tq) 10 439 (cSpL N)) (h_content_size : FK (GG prog w h₀ mg mb tabs tq) 8 363 (cSize N)) (h__law_amount : FK (GG prog w h₀ mg mb tabs tq) 2 508 cAmt) (h__law_begin_right : FK (GG prog w h₀ mg mb tabs tq) 11 470 (cBR N)) (h__law_place : FK (GG prog w h₀ mg mb tabs tq) 4 477 cPlace) (h__law_rest : FK (GG prog w h₀ mg mb tabs tq) 5 484 (cRest N)) (h__law_frame : FK (GG prog w h₀ mg mb tabs tq) 6 406 (cFrame N)) (h__law_rest_right : FK (GG prog w h₀ mg mb tabs tq) 11 491 (cRR N)) (h__law_bent_right : FK (GG prog w h₀ mg mb tabs tq) 12 503 (cBentR N)) (h__law_midst_right : FK (GG prog w h₀ mg mb tabs tq) 12 529 (cMid N)) (h__law_exchanged_right : FK (GG prog w h₀ mg mb tabs tq) 12 515 (cExch N)) (h__law_put_right : FK (GG prog w h₀ mg mb tabs tq) 12 522 (cPut N)) (cd : Value) :
    SB (GG prog w h₀ mg mb tabs tq) 13 ⟨scopeOf (((GG prog w h₀ mg mb tabs tq)).K.lookup 536), cd, ("law" : Str) ++ ".<locals>."⟩ [("script" : Str), "jar", "deep", "frames", "octets", "due", "turn", "rest", "word", "one"] (bodyOf (((GG prog w h₀ mg mb tabs tq)).K.lookup 536)) (TopP N) :=
  (valO_eq (by with_unfolding_all rfl : valO ((run (LX O [⟨370, .fn 2 _ h__law_jar rfl⟩, ⟨377, .fv 2 _ h__law_take⟩, ⟨413, .fv 7 _ h__law_frames⟩, ⟨420, .fv 2 _ h__law_row⟩, ⟨439, .fv 10 _ h__law_spans⟩, ⟨363, .fv 8 _ h_content_size⟩, ⟨508, .fv 2 _ h__law_amount⟩, ⟨470, .fv 11 _ h__law_begin_right⟩, ⟨477, .fv 4 _ h__law_place⟩, ⟨484, .fv 5 _ h__law_rest⟩, ⟨406, .fv 6 _ h__law_frame⟩, ⟨491, .fv 11 _ h__law_rest_right⟩, ⟨503, .fv 12 _ h__law_bent_right⟩, ⟨529, .fv 12 _ h__law_midst_right⟩, ⟨515, .fv 12 _ h__law_exchanged_right⟩, ⟨522, .fv 12 _ h__law_put_right⟩]) 60).B 13 (blk "law" (scopeOf (((GG prog w h₀ mg mb tabs tq)).K.lookup 536)) .none ["script"] false) (bodyOf (((GG prog w h₀ mg mb tabs tq)).K.lookup 536))) = some (TopP N))) cd (fun _ e => nomatch e)
theorem law_all {N : Nat} (hN : N = 1000001) (hN2 : 2 ≤ N) (O : ((GG prog w h₀ mg mb tabs tq)).Ok) {P1 P2 P3 : Addr} (q1 : (438, P1) ∈ tabs) (t1 : tq P1 = ("_law_spans.<locals>." : Str) ++ ("<lambda>" : Str)) (q2 : (445, P2) ∈ tabs) (t2 : tq P2 = ("_law_steps.<locals>." : Str) ++ ("<lambda>" : Str)) (q3 : (528, P3) ∈ tabs) (t3 : tq P3 = ("_law_midst_right.<locals>." : Str) ++ ("<lambda>" : Str)) (cd : Value) :
    SB (GG prog w h₀ mg mb tabs tq) 13 ⟨scopeOf (((GG prog w h₀ mg mb tabs tq)).K.lookup 536), cd, ("law" : Str) ++ ".<locals>."⟩ [("script" : Str), "jar", "deep", "frames", "octets", "due", "turn", "rest", "word", "one"] (bodyOf (((GG prog w h₀ mg mb tabs tq)).K.lookup 536)) (TopP N) :=
  have n := c_need O 
  have e := c_end O 
  have l := c_left O 
  have t := c_take O n l
  have o := c_octet O t
  have le := c_le O 
  have li := c_little O t le
  have oi := c_oi O e
  have o1 := c_oi1 O e
  have wi := c_win O 
  have sk := c_issk O 
  have ch := c_chk O 
  have cn := c_cnt O 
  have fh := c_fh O 
  have bh := c_bh O 
  have fs := c_fs O 
  have td := c_told O 
  have hd := c_bhead O li bh
  have rs := c_skip O li t sk
  have nx := c_next O l li sk
  have rh := c_hdr O li o ch cn wi fh
  have me := c_measure (N := N) hN O nx sk rs fs rh hd t li
  have sp := c_spans (N := N) O o1 l me
  have sz := c_size (N := N) O sp
  have Lt := l_take O 
  have Ls := l_some O Lt
  have Lw := l_low O 
  have Lu := l_sum O 
  have Lb := l_beg O 
  have Lo := l_oth O 
  have Ld := l_told O td
  have Le := l_led O 
  have Lr := l_row O 
  have La := l_amt O 
  have Lj := l_jar O 
  have hw := fun b => w_word O b
  have Lp := l_spans (N := N) O sp Ld hw q1 t1
  have Lq := l_steps (N := N) O o1 l me Ld hw q2 t2
  have Ll := l_place O Lt
  have Lbr := l_br (N := N) O Lq Lb Lo
  have Lrr := l_rr (N := N) O Lp Lb Lo Le
  have Lbe := l_bent O Lt Ls
  have Lbb := l_bentr (N := N) O Lbe Lq Lp Lb Lo Lbr Ll Ls
  have Lbk := l_blocks O Lt Ls Lw
  have Lf := l_frame (N := N) hN2 O Lt Ls Lw Lu Lbk
  have Lff := l_frames (N := N) O Lt Lf
  have Lre := l_rest (N := N) hN2 O Lt Ls Lw
  have Lex := l_exch (N := N) O Lt Lr Lp sz La
  have Lpu := l_put (N := N) O Lt Lf Le Lp sz La
  have Lmi := l_mid (N := N) O oi me Ld rs hw q3 t3
  sb_law O Lj Lt Lff Lr Lp sz La Lbr Ll Lre Lf Lrr Lbb Lmi Lex Lpu cd
end
end Mine
namespace Mine
open PySem PySem.W PySem.Calls PyProof.Rows

theorem ints_reps {G : Gr} {h : Heap} {θ X : List Addr} : ∀ {vs : List Value} {cs : List Int}, IntsAre vs cs → Reps G h θ X vs (cs.map D.int)
  | _, _, .nil => .nil
  | _, _, .cons n t r => .cons (.int n t) (ints_reps r)
theorem top_stt {G : Gr} {name : Str} {scope : Scope} {L fa l : Addr} {cd : Value} {h : Heap} {m : Str → Option Value} {vs : List Value} {n : Nat} {cells : List Int} {rest : List Str} {k : Nat}
    (hk : scope.kind = .function) (F : PyProof.Rows.Fr G.h₀ L h m) (hm : m "script" = some (.ref l)) (hl : G.h₀.get? l = some (listOf vs.toArray n)) (hi : IntsAre vs cells)
    (htabs : ∀ q ∈ G.tabs, h.get? q.2 = some (tabObj #[]) ∧ q.2 ≠ L ∧ G.h₀.get? q.2 = none) (hnd : G.tA.Nodup) (hloc : scope.names.lookup ("script" : Str) = some .local) :
    Stt G (callerA.deeper (envOf name scope L fa cd)) (envOf name scope L fa cd) ("script" :: rest) [] (L :: G.tA) h (some (.list (cells.map D.int)) :: List.replicate k none) [] := by
  have hL : G.h₀.get? L = none := Heap.get?_none_of_le F.above
  have htA : ∀ a ∈ G.tA, h.get? a = some (tabObj #[]) ∧ a ≠ L ∧ G.h₀.get? a = none := fun a ha => by
    obtain ⟨q, hq, rfl⟩ := List.mem_map.mp ha
    exact htabs q hq
  have hfr : frs (callerA.deeper (envOf name scope L fa cd)) = [envOf name scope L fa cd] := rfl
  have hFL : FL (callerA.deeper (envOf name scope L fa cd)) = [L] := rfl
  have hnew : ∀ a ∈ L :: G.tA, G.h₀.get? a = none := fun a ha => by
    rcases List.mem_cons.mp ha with rfl | ha
    · exact hL
    · exact (htA a ha).2.2
  have hlX : l ∉ L :: G.tA := fun q => by rw [hnew l q] at hl; cases hl
  refine ⟨⟨F.keep, fun q hq => ?_, rfl, fun e he => ?_⟩, ⟨fun a ha => ?_, fun a ha => ?_, by simpa using hnd, fun a ha => ?_, hnew⟩, ⟨rfl, fun i a mo e => by simp at e⟩, ⟨hk, rfl, ⟨m, F.ns⟩, fun p hp => (nomatch hp), fun a ha => ?_, fun a ha => ?_, by simp [envA, envOf], fun p hp => (nomatch hp)⟩, fun i d e => ?_⟩
  · exact ⟨(htabs q hq).1, trivial, fun pos cv e => nomatch e⟩
  · rw [hfr, List.mem_singleton] at he
    subst he
    obtain ⟨o, es, ep, ho, hd, _⟩ := F.ns
    exact ⟨by show scope.kind ≠ .module; rw [hk]; decide, L, o, es, ep, rfl, hL, ho, hd⟩
  · rcases ha with ha | ha | ha
    · cases ha
    · exact .tail _ ha
    · rw [hFL, List.mem_singleton] at ha; rw [ha]; exact .head _
  · rcases List.mem_cons.mp ha with rfl | ha
    · exact F.ns.lt
    · exact Heap.lt_size (htA a ha).1
  · rw [hFL, List.mem_singleton] at ha
    subst ha
    exact ⟨fun q => (nomatch q), fun q => (htA _ q).2.1 rfl⟩
  · have : a = L := by simpa [envA, envOf] using ha
    rw [this]; exact .head _
  · have : a = L := by simpa [envA, envOf] using ha
    subst this
    exact ⟨fun q => (nomatch q), fun q => (htA _ q).2.1 rfl⟩
  · cases i with
    | zero =>
      simp only [List.getElem?_cons_zero, Option.some.injEq] at e
      subst e
      refine ⟨"script", .ref l, rfl, .inl ⟨hloc, m, F.ns, hm⟩, .list (F.keep _ _ hl) hlX (ints_reps hi)⟩
    | succ i =>
      rw [List.getElem?_cons_succ, List.getElem?_replicate] at e
      split at e <;> simp at e
theorem top_run {G : Gr} {b : Nat} {name : Str} {scope : Scope} {L fa l : Addr} {cd : Value} {s : Shared} {m : Str → Option Value} {vs : List Value} {n : Nat} {cells : List Int} {rest : List Str} {body : List Stmt} {P : PS}
    {Q : Flow → Shared → Prop} {E : Value → Shared → Prop}
    (hB : SB G b ⟨scope, cd, name ++ ".<locals>."⟩ ("script" :: rest) body P) (hb : b ≤ 60)
    (hk : scope.kind = .function) (F : PyProof.Rows.Fr G.h₀ L s.heap m) (hm : m "script" = some (.ref l)) (hl : G.h₀.get? l = some (listOf vs.toArray n)) (hi : IntsAre vs cells)
    (htabs : ∀ q ∈ G.tabs, s.heap.get? q.2 = some (tabObj #[]) ∧ q.2 ≠ L ∧ G.h₀.get? q.2 = none) (hnd : G.tA.Nodup) (hloc : scope.names.lookup ("script" : Str) = some .local) (hcel : ∀ x, scope.names.lookup x ≠ some .cell)
    (p : P (some (.list (cells.map D.int)) :: List.replicate rest.length none) [] (fun _ _ => False) (fun d _ => d = .bool true) (fun _ _ => False))
    (hQ : ∀ s', (∀ b o, G.h₀.get? b = some o → s'.heap.get? b = some o) → (∀ q ∈ G.tabs, ∃ ps, s'.heap.get? q.2 = some (tabObj ps)) → Rest s s' → Q (.ret (.bool true)) s') :
    wpAny (model G.prog G.w) (callerA.deeper (envOf name scope L fa cd)) (execs body (envOf name scope L fa cd)) Q E s := by
  have hA : AOk (callerA.deeper (envOf name scope L fa cd)) b := ⟨rfl, by show 1 + claimMargin + 1 + 8 * b + 20 ≤ 1000; have : claimMargin = 300 := rfl; omega, by show 4 + 3 + 100 * b + 300 ≤ 9900; omega⟩
  have hok : Fs.ok ⟨scope, cd, name ++ ".<locals>."⟩ (envOf name scope L fa cd) := ⟨rfl, rfl, rfl, rfl, fun x hx => absurd hx (hcel x)⟩
  have hF : InFr (callerA.deeper (envOf name scope L fa cd)) (envOf name scope L fa cd) := ⟨⟨[], rfl⟩, ⟨L, rfl⟩⟩
  refine wpAny_mono (hB _ _ [] _ s _ [] _ _ _ hA hok hF (top_stt hk F hm hl hi htabs hnd hloc) p) (fun f s' q => ?_) fun v s' q => ?_
  · cases f with
    | next => obtain ⟨_, _, _, _, _, _, q, _⟩ := q; exact q.elim
    | ret v =>
      obtain ⟨θ', X', ρ', d, μ', _, S', R, rfl, r⟩ := q
      cases R
      refine hQ s' S'.inv.base (fun q hq => ?_) r
      obtain ⟨e, _⟩ := S'.inv.tabs q hq
      exact ⟨_, e⟩
    | brk => exact q.elim
    | cont => exact q.elim
  · obtain ⟨_, _, _, _, _, _, _, _, _, _, q, _⟩ := q
    exact q.elim
end Mine
namespace Mine
open PySem PySem.W PySem.Calls PyProof.Rows
def tabs3 : List (Addr × Addr) := [(528, 524), (445, 441), (438, 436)]
def tq3 : Addr → Str
  | 436 => ("_law_spans.<locals>." : Str) ++ ("<lambda>" : Str)
  | 441 => ("_law_steps.<locals>." : Str) ++ ("<lambda>" : Str)
  | _ => ("_law_midst_right.<locals>." : Str) ++ ("<lambda>" : Str)
theorem mem3 {α : Type} {q a b c : α} (h : q ∈ [a, b, c]) : q = a ∨ q = b ∨ q = c := by
  cases h with
  | head => exact .inl rfl
  | tail _ h => cases h with
    | head => exact .inr (.inl rfl)
    | tail _ h => cases h with
      | head => exact .inr (.inr rfl)
      | tail _ h => cases h
theorem ok3 {prog : Program} {w : World} {h₀ : Heap} {mg mb : Str → Option Value} {p : Program} {loose : List Str} {mean : ExcName → Option Value} (X : (Mine.K0.heap_1 w.params).In h₀) (T : Top p loose mean mg mb h₀)
    (c1 : CodeHd h₀ 528 524) (c2 : CodeHd h₀ 445 441) (c3 : CodeHd h₀ 438 436) : (GG prog w h₀ mg mb tabs3 tq3).Ok := by
  refine ⟨X, ⟨_, _, topRead_of T⟩, fun q hq => ?_, T.bmain⟩
  have : q = (528, 524) ∨ q = (445, 441) ∨ q = (438, 436) := mem3 hq
  rcases this with rfl | rfl | rfl
  · exact c1
  · exact c2
  · exact c3
theorem fin_run {prog : Program} {w : World} {h₀ : Heap} {mg mb : Str → Option Value} {p : Program} {loose : List Str} {mean : ExcName → Option Value} {L fa l : Addr} {cd : Value} {s : Shared} {m : Str → Option Value} {vs : List Value} {cells : List Int}
    {Q : Flow → Shared → Prop} {E : Value → Shared → Prop}
    (X : (Mine.K0.heap_1 w.params).In h₀) (T : Top p loose mean mg mb h₀) (c1 : CodeHd h₀ 528 524) (c2 : CodeHd h₀ 445 441) (c3 : CodeHd h₀ 438 436)
    (F : PyProof.Rows.Fr h₀ L s.heap m) (N : News h₀ L s.heap [(524, tabObj #[]), (441, tabObj #[]), (436, tabObj #[])]) (hm : m "script" = some (.ref l)) (hl : ∃ n, h₀.get? l = some (listOf vs.toArray n)) (hi : IntsAre vs cells) (hcl : cells.length ≤ 63)
    (hQ : ∀ s', (∀ b o, h₀.get? b = some o → s'.heap.get? b = some o) → GrownAll [(528, 524), (445, 441), (438, 436)] s'.heap → Rest s s' → Q (.ret (.bool true)) s') :
    wpAny (model prog w) (callerA.deeper (envOf "law" (scopeOf ((Mine.K0.heap_1 w.params).lookup 536)) L fa cd)) (execs (bodyOf ((Mine.K0.heap_1 w.params).lookup 536)) (envOf "law" (scopeOf ((Mine.K0.heap_1 w.params).lookup 536)) L fa cd)) Q E s := by
  obtain ⟨n, hl⟩ := hl
  have O := ok3 (prog := prog) X T c1 c2 c3
  obtain ⟨n1, hN⟩ : ∃ N, N = 1000001 := ⟨_, rfl⟩
  have hB := law_all hN (by rw [hN]; exact Nat.le_of_ble_eq_true rfl) O (P1 := 436) (P2 := 441) (P3 := 524) (.tail _ (.tail _ (.head _))) rfl (.tail _ (.head _)) rfl (.head _) rfl cd
  refine top_run (G := GG prog w h₀ mg mb tabs3 tq3) hB (by decide) rfl F hm hl hi (fun q hq => ?_) (by show ([524, 441, 436] : List Addr).Nodup; decide) rfl (fun x hx => ?_) (law_vc hcl) (fun s' k1 k2 r => hQ s' k1 ?_ r)
  · have : q = (528, 524) ∨ q = (445, 441) ∨ q = (438, 436) := mem3 hq
    rcases this with rfl | rfl | rfl
    · exact N (524, tabObj #[]) (.head _)
    · exact N (441, tabObj #[]) (.tail _ (.head _))
    · exact N (436, tabObj #[]) (.tail _ (.tail _ (.head _)))
  · have hcm := mem_of_lookup hx
    revert hcm
    have : ∀ y ∈ (scopeOf ((GG prog w h₀ mg mb tabs3 tq3).K.lookup 536)).names, y.2 ≠ .cell := by
      intro y hy
      have hall : ((scopeOf ((GG prog w h₀ mg mb tabs3 tq3).K.lookup 536)).names.all fun y => !(y.2 == .cell)) = true := rfl
      have := List.all_eq_true.mp hall y hy
      intro q
      rw [q] at this; cases this
    exact fun q => this _ q rfl
  · exact ⟨k2 (528, 524) (.head _), k2 (445, 441) (.tail _ (.head _)), k2 (438, 436) (.tail _ (.tail _ (.head _))), trivial⟩
theorem rest_os {s s' : Shared} (r : Rest s s') : s'.os = s.os := by unfold Rest at r; rw [r]
theorem rest_gens {s s' : Shared} (r : Rest s s') : s'.gens = s.gens := by unfold Rest at r; rw [r]
theorem list_at {P : Params} {h : Heap} {l : Addr} {vs : List Value} {xs : List PyData} {tabs : List (Addr × Addr)} (hT : TabsAt tabs h) (hL : h.IsList l vs.toArray) (hw : Well P h (.ref l) (ofPy (.list xs))) : ∃ n, (ghostOf h tabs).get? l = some (listOf vs.toArray n) := by
  obtain ⟨o, e1, e2, n, e3⟩ := hL
  rw [ofPy] at hw
  cases hw with
  | list e _ =>
    rw [e1] at e
    cases e
    refine ⟨n, ghost_get hT ?_ ?_⟩
    · rw [e1]
      show some _ = some _
      congr 1
      simp only [Data.seq.injEq] at e3
      simp [W.listOf, e3]
    · intro q
      injection q with q1 q2
      cases q1
end Mine
section
open PySem PySem.W PySem.Calls PyProof.Rows
set_option Elab.async true
def Mine.top.tw3636811831100275137 : Nat := 0
def Mine.top.tw16541100652227675460 : Nat := 0
def Mine.top.tw8511147975818421384 : Nat := 0
def Mine.top.tw9157123940461110360 : Nat := 0
def Mine.top.tw2880671085445912983 : Nat := 0
def Mine.top.tw18064794426631996164 : Nat := 0
def Mine.top.tw15545262976902288652 : Nat := 0
def Mine.top.tw3352738760509787134 : Nat := 0
def Mine.top.tw4905193454434980730 : Nat := 0
def Mine.top.tw2381652406902245164 : Nat := 0
def Mine.top.tw16263562637302314710 : Nat := 0
def Mine.top.tw9874905121527432817 : Nat := 0
def Mine.top.tw3314364781008592192 : Nat := 0
def Mine.top.tw12209182163369298222 : Nat := 0
def Mine.top.tw13983857475226248213 : Nat := 0
def Mine.top.tw11728428570680665570 : Nat := 0
def Mine.top.tw76412952228603488 : Nat := 0
def Mine.top.tw10720975761010774513 : Nat := 0
def Mine.top.tw8281120267493503204 : Nat := 0
def Mine.top.tw3976154599441133093 : Nat := 0
def Mine.top.tw6674990990233134667 : Nat := 0
def Mine.top.tw17795014544551873601 : Nat := 0
def Mine.top.tw2417791160451022400 : Nat := 0
def Mine.top.tw6265701101103706036 : Nat := 0
def Mine.top.tw10438016080984586364 : Nat := 0
def Mine.top.tw17103585973383926153 : Nat := 0
def Mine.top.tw4177254973167742082 : Nat := 0
def Mine.top.tw13802547742096326172 : Nat := 0
def Mine.top.tw197639962195918182 : Nat := 0
def Mine.top.tw1350575918064645229 : Nat := 0
def Mine.top.tw13420762306968818387 : Nat := 0
def Mine.top.tw8204474986945543665 : Nat := 0
def Mine.top.tw2732273902793177162 : Nat := 0
def Mine.top.tw17542608870123051758 : Nat := 0
def Mine.top.tw12427389293880184781 : Nat := 0
def Mine.top.tw11334350811105764591 : Nat := 0
def Mine.top.tw84136930442132756 : Nat := 0
def Mine.top.tw2731995056826638727 : Nat := 0
def Mine.top.tw11240886729373846589 : Nat := 0
def Mine.top.tw1016984595167383106 : Nat := 0
def Mine.top.tw2145171640123136144 : Nat := 0
def Mine.top.tw4166218997396506358 : Nat := 0
def Mine.top.tw705360758644809490 : Nat := 0
def Mine.top.tw17810072253543177317 : Nat := 0
def Mine.top.tw14917401599646851644 : Nat := 0
def Mine.top.tw5983031951866500094 : Nat := 0
def Mine.top.tw16204670001084760307 : Nat := 0
def Mine.top.tw8139039716903228087 : Nat := 0
def Mine.top.tw1869187583165140508 : Nat := 0
def Mine.top.tw11546936639936008217 : Nat := 0
def Mine.top.tw11960245374511038805 : Nat := 0
def Mine.top.tw14794233151107227712 : Nat := 0
def Mine.top.tw5278709424875269971 : Nat := 0
def Mine.top.tw16044733080236030384 : Nat := 0
def Mine.top.tw14399976873020721970 : Nat := 0
def Mine.top.tw7671549972530922468 : Nat := 0
def Mine.top.tw9195894827357321740 : Nat := 0
def Mine.top.tw9590735534726013551 : Nat := 0
def Mine.top.tw8107780213005350392 : Nat := 0
def Mine.top.tw1245559373397905713 : Nat := 0
def Mine.top.tw6749217079512962374 : Nat := 0
def Mine.top.tw10774637447528242797 : Nat := 0
def Mine.top.tw9227541089923242437 : Nat := 0
def Mine.top.tw2007660962349395123 : Nat := 0
def Mine.top.tw9919435345466941130 : Nat := 0
def Mine.top.tw10783980745131425670 : Nat := 0
def Mine.top.tw1483126911874232274 : Nat := 0
def Mine.top.tw11520865232209809239 : Nat := 0
def Mine.top.tw517144808224063464 : Nat := 0
def Mine.top.tw4571971715460732019 : Nat := 0
def Mine.top.tw8140125068956082859 : Nat := 0
def Mine.top.tw16123964013534891561 : Nat := 0
def Mine.top.tw14697636140705633519 : Nat := 0
def Mine.top.tw16325430554902658873 : Nat := 0
def Mine.top.tw6624316729101989866 : Nat := 0
def Mine.top.tw4555866861457887817 : Nat := 0
def Mine.top.tw9503340733035011235 : Nat := 0
def Mine.top.tw6930518751129746686 : Nat := 0
def Mine.top.tw1754339480302792767 : Nat := 0
def Mine.top.tw10987319290404115282 : Nat := 0
def Mine.top.tw4213018616267185653 : Nat := 0
def Mine.top.tw1706793611546318481 : Nat := 0
def Mine.top.tw13307591127769906961 : Nat := 0
def Mine.top.tw13068111086705522682 : Nat := 0
def Mine.top.tw10001883323181062329 : Nat := 0
def Mine.top.tw8335412135813284522 : Nat := 0
def Mine.top.tw5225153198818245361 : Nat := 0
def Mine.top.tw18008055252877512497 : Nat := 0
def Mine.top.tw2464713573024523455 : Nat := 0
def Mine.top.tw16439428074185983240 : Nat := 0
def Mine.top.tw5860347150701562758 : Nat := 0
def Mine.top.tw381845443943030031 : Nat := 0
def Mine.top.tw10006222313960134694 : Nat := 0
def Mine.top.tw2377541652452675900 : Nat := 0
def Mine.top.tw7381879191629600215 : Nat := 0
def Mine.top.tw15362295582089109014 : Nat := 0
def Mine.top.tw17886615442053742456 : Nat := 0
def Mine.top.tw2443449257678562572 : Nat := 0
def Mine.top.tw6430265229019958763 : Nat := 0
def Mine.top.tw2847958352784047137 : Nat := 0
def Mine.top.tw8435561252592420358 : Nat := 0
def Mine.top.tw501154541418245514 : Nat := 0
def Mine.top.tw14402358008270493973 : Nat := 0
def Mine.top.tw17286200991368432379 : Nat := 0
def Mine.top.tw13370750898655102155 : Nat := 0
def Mine.top.tw10448899703829047738 : Nat := 0
def Mine.top.tw9108098604805947806 : Nat := 0
def Mine.top.tw17046948494117081484 : Nat := 0
def Mine.top.tw9063741608606530840 : Nat := 0
def Mine.top.tw3855276242980373810 : Nat := 0
def Mine.top.tw15918733279669447828 : Nat := 0
def Mine.top.tw6906291655842520137 : Nat := 0
def Mine.top.tw13928562000808390012 : Nat := 0
def Mine.top.tw9962302188120564619 : Nat := 0
def Mine.top.tw9059672392935016618 : Nat := 0
def Mine.top.tw11613256710310857696 : Nat := 0
def Mine.top.tw1843344800811705456 : Nat := 0
def Mine.top.tw9961057766049560675 : Nat := 0
def Mine.top.tw15254643099363442306 : Nat := 0
def Mine.top.tw13994475860397038760 : Nat := 0
def Mine.top.tw10341860258655708415 : Nat := 0
def Mine.top.tw8813761850579938390 : Nat := 0
def Mine.top.tw10956490626425055710 : Nat := 0
def Mine.top.tw10399464001100048223 : Nat := 0
def Mine.top.tw12501917291106330125 : Nat := 0
def Mine.top.tw8369368087495890639 : Nat := 0
def Mine.top.tw9305691244287143441 : Nat := 0
def Mine.top.tw4940147422707163885 : Nat := 0
def Mine.top.tw8237333600419904120 : Nat := 0
def Mine.top.tw1585457916280141200 : Nat := 0
def Mine.top.tw16104615914030681952 : Nat := 0
def Mine.top.tw12342655685612074800 : Nat := 0
def Mine.top.tw6176384092110617959 : Nat := 0
def Mine.top.tw13290321428070320777 : Nat := 0
def Mine.top.tw2985252069258134486 : Nat := 0
def Mine.top.tw12415523145999629524 : Nat := 0
def Mine.top.tw5938664839603501006 : Nat := 0
def Mine.top.tw12080426169559351053 : Nat := 0
def Mine.top.tw18177719399980262173 : Nat := 0
def Mine.top.tw14263998999751124003 : Nat := 0
def Mine.top.tw8265191368974092141 : Nat := 0
def Mine.top.tw14142502885225118848 : Nat := 0
def Mine.top.tw1112988674713690477 : Nat := 0
def Mine.top.tw12425085872883035938 : Nat := 0
def Mine.top.tw4551080515912023512 : Nat := 0
def Mine.top.tw14823308797102314842 : Nat := 0
def Mine.top.tw9743097575036673082 : Nat := 0
def Mine.top.tw15503665604740900718 : Nat := 0
def Mine.top.tw814325599930780420 : Nat := 0
def Mine.top.tw12317137736924338119 : Nat := 0
def Mine.top.tw2722852734226103192 : Nat := 0
def Mine.top.tw5303079699428457377 : Nat := 0
def Mine.top.tw10996937224433265937 : Nat := 0
def Mine.top.tw370947364307004932 : Nat := 0
def Mine.top.tw9759319705405543751 : Nat := 0
def Mine.top.tw12256363837256957063 : Nat := 0
def Mine.top.tw5667650583090716360 : Nat := 0
def Mine.top.tw15860264024139754761 : Nat := 0
def Mine.top.tw7297446738713254254 : Nat := 0
def Mine.top.tw12622177474791663080 : Nat := 0
def Mine.top.tw104434173382791472 : Nat := 0
def Mine.top.tw1676862907878916244 : Nat := 0
def Mine.top.tw8523463495250067690 : Nat := 0
def Mine.top.tw17219337458794519322 : Nat := 0
def Mine.top.tw11582926029173025856 : Nat := 0
def Mine.top.tw14789260269991461300 : Nat := 0
def Mine.top.tw16196420915677631385 : Nat := 0
def Mine.top.tw283044589724301 : Nat := 0
def Mine.top.tw7008692893051332821 : Nat := 0
def Mine.top.tw4840481374290595910 : Nat := 0
def Mine.top.tw17428532607074087071 : Nat := 0
def Mine.top.tw5523086135645875356 : Nat := 0
def Mine.top.tw6859976401760118174 : Nat := 0
def Mine.top.tw2220570432770164149 : Nat := 0
def Mine.top.tw6127594578889010139 : Nat := 0
def Mine.top.tw14615657086365298920 : Nat := 0
def Mine.top.tw10936122117785486979 : Nat := 0
def Mine.top.tw16719718919923625709 : Nat := 0
def Mine.top.tw728428047077509346 : Nat := 0
def Mine.top.tw6572447435987645144 : Nat := 0
def Mine.top.tw1655259298481077034 : Nat := 0
def Mine.top.tw12643491718579748851 : Nat := 0
def Mine.top.tw6042063481754889096 : Nat := 0
def Mine.top.tw14390669486469195807 : Nat := 0
def Mine.top.tw1988063486488863061 : Nat := 0
def Mine.top.tw2581206410525282061 : Nat := 0
def Mine.top.tw352232786441526191 : Nat := 0
def Mine.top.tw15349318334595610263 : Nat := 0
def Mine.top.tw672699306608606093 : Nat := 0
def Mine.top.tw13264354339760550358 : Nat := 0
def Mine.top.tw3969286963782609292 : Nat := 0
def Mine.top.tw3796891538752321733 : Nat := 0
def Mine.top.tw10567129059001840431 : Nat := 0
def Mine.top.tw8148004212497801138 : Nat := 0
def Mine.top.tw9631074621892390191 : Nat := 0
def Mine.top.tw6694047246710070196 : Nat := 0
def Mine.top.tw10617020205504526918 : Nat := 0
def Mine.top.tw16900427199656544559 : Nat := 0
def Mine.top.tw1088946173253831356 : Nat := 0
def Mine.top.tw3776753064480771068 : Nat := 0
def Mine.top.tw7847352863974893604 : Nat := 0
def Mine.top.tw12105128591322288922 : Nat := 0
def Mine.top.tw10801874191123338550 : Nat := 0
def Mine.top.tw6761616313442571491 : Nat := 0
def Mine.top.tw3195968871104189447 : Nat := 0
def Mine.top.tw10574840078274726829 : Nat := 0
def Mine.top.tw15740088241188596515 : Nat := 0
def Mine.top.tw16800595933775061595 : Nat := 0
def Mine.top.tw9166809390415177425 : Nat := 0
def Mine.top.tw5597187220613765494 : Nat := 0
def Mine.top.tw708234853630380328 : Nat := 0
def Mine.top.tw13822267516522204269 : Nat := 0
def Mine.top.tw4383139521930768336 : Nat := 0
def Mine.top.tw2405475915293451298 : Nat := 0
def Mine.top.tw4859757453598101857 : Nat := 0
def Mine.top.tw16550210197400561554 : Nat := 0
def Mine.top.tw5609151216138764652 : Nat := 0
def Mine.top.tw11430207588045935325 : Nat := 0
def Mine.top.tw7990429038631628895 : Nat := 0
def Mine.top.tw12958664272152378060 : Nat := 0
def Mine.top.tw6124053682588569230 : Nat := 0
def Mine.top.tw10404823597219466188 : Nat := 0
def Mine.top.tw9233335307524088747 : Nat := 0
def Mine.top.tw4656485037274611717 : Nat := 0
def Mine.top.tw18063644159110109576 : Nat := 0
def Mine.top.tw2312856594315299383 : Nat := 0
def Mine.top.tw4784893810139332661 : Nat := 0
def Mine.top.tw47109162367338493 : Nat := 0
def Mine.top.tw2835187731363253809 : Nat := 0
def Mine.top.tw7444641836354208208 : Nat := 0
def Mine.top.tw9851269098105209369 : Nat := 0
def Mine.top.tw6491118196486620199 : Nat := 0
def Mine.top.tw8645369167282567922 : Nat := 0
def Mine.top.tw2812155379371279736 : Nat := 0
def Mine.top.tw339143206060000330 : Nat := 0
def Mine.top.tw453181688931711583 : Nat := 0
def Mine.top.tw12318557346453588183 : Nat := 0
def Mine.top.tw2907113945770861938 : Nat := 0
def Mine.top.tw17022078359063049780 : Nat := 0
def Mine.top.tw16878204669230926818 : Nat := 0
def Mine.top.tw17323899518341599180 : Nat := 0
def Mine.top.tw2617719716777270872 : Nat := 0
def Mine.top.tw5868845118606482295 : Nat := 0
def Mine.top.tw16453443671601555132 : Nat := 0
def Mine.top.tw16420938139371093754 : Nat := 0
def Mine.top.tw3195522803047326042 : Nat := 0
def Mine.top.tw3584897518013459382 : Nat := 0
def Mine.top.tw6286779285267259847 : Nat := 0
def Mine.top.tw17492772389151264855 : Nat := 0
def Mine.top.tw16885616592811714743 : Nat := 0
def Mine.top.tw6885214360128481674 : Nat := 0
def Mine.top.tw3207569582813703071 : Nat := 0
def Mine.top.tw7414872774492366064 : Nat := 0
def Mine.top.tw13889484949932952446 : Nat := 0
def Mine.top.tw11423202765487971197 : Nat := 0
def Mine.top.tw2126296398998916975 : Nat := 0
def Mine.top.tw2727672472851901052 : Nat := 0
def Mine.top.tw297971269722091814 : Nat := 0
def Mine.top.tw13090165191389475591 : Nat := 0
def Mine.top.tw12535971307161669396 : Nat := 0
def Mine.top.tw9442318146202087700 : Nat := 0
def Mine.top.tw18367679650794681301 : Nat := 0
def Mine.top.tw9178861053002065721 : Nat := 0
def Mine.top.tw16713831800681072344 : Nat := 0
def Mine.top.tw13134186033006778460 : Nat := 0
def Mine.top.tw10648311167861321448 : Nat := 0
def Mine.top.tw7250933059871147345 : Nat := 0
def Mine.top.tw8640399195822439974 : Nat := 0
def Mine.top.tw1732150942055357024 : Nat := 0
def Mine.top.tw9378254376102152143 : Nat := 0
def Mine.top.tw16597617366809209970 : Nat := 0
def Mine.top.tw17342085116792181814 : Nat := 0
def Mine.top.tw5766051744304087583 : Nat := 0
def Mine.top.tw13177472732611162249 : Nat := 0
def Mine.top.tw4159251561096739476 : Nat := 0
def Mine.top.tw9800703332001039478 : Nat := 0
def Mine.top.tw15786856763048480637 : Nat := 0
def Mine.top.tw17486766287000646611 : Nat := 0
def Mine.top.tw10090393231696489298 : Nat := 0
def Mine.top.tw13001836021917841797 : Nat := 0
def Mine.top.tw3261557481417251176 : Nat := 0
def Mine.top.tw13889309363888878346 : Nat := 0
def Mine.top.tw13044034144603486326 : Nat := 0
def Mine.top.tw6431110157172167083 : Nat := 0
def Mine.top.tw4597200072644226624 : Nat := 0
def Mine.top.tw6333448901615975916 : Nat := 0
def Mine.top.tw4186445540838780016 : Nat := 0
def Mine.top.tw8679839319945467846 : Nat := 0
def Mine.top.tw6438537300738474071 : Nat := 0
def Mine.top.tw8143265674769528471 : Nat := 0
def Mine.top.tw7429413206186439793 : Nat := 0
def Mine.top.tw9335426496214029073 : Nat := 0
def Mine.top.tw8311017846404947139 : Nat := 0
def Mine.top.tw7600245330811189008 : Nat := 0
def Mine.top.tw1601500998369573665 : Nat := 0
def Mine.top.tw14459580976405569124 : Nat := 0
def Mine.top.tw8735323631387419056 : Nat := 0
def Mine.top.tw17781115878593249900 : Nat := 0
def Mine.top.tw4828031223510198475 : Nat := 0
def Mine.top.tw5889316905344633881 : Nat := 0
def Mine.top.tw81815255157605957 : Nat := 0
def Mine.top.tw1817607043029479484 : Nat := 0
def Mine.top.tw4134505453457115739 : Nat := 0
def Mine.top.tw1814787853859245837 : Nat := 0
def Mine.top.tw6883741973766446791 : Nat := 0
def Mine.top.tw10657950659306570408 : Nat := 0
def Mine.top.tw13501252493785611398 : Nat := 0
def Mine.top.tw72247145696351765 : Nat := 0
def Mine.top.tw10548783162686979305 : Nat := 0
def Mine.top.tw11334203419191126389 : Nat := 0
def Mine.top.tw908825868028484722 : Nat := 0
def Mine.top.tw4498253355057717688 : Nat := 0
def Mine.top.tw12385144161495827662 : Nat := 0
def Mine.top.tw10079171474624433434 : Nat := 0
def Mine.top.tw146815374380898660 : Nat := 0
def Mine.top.tw9768079942903668216 : Nat := 0
def Mine.top.tw1108800333578037850 : Nat := 0
def Mine.top.tw14851680436948445374 : Nat := 0
def Mine.top.tw2665807947273092163 : Nat := 0
def Mine.top.tw1149218181149386328 : Nat := 0
def Mine.top.tw3561193834555079511 : Nat := 0
def Mine.top.tw11459358961799972967 : Nat := 0
def Mine.top.tw5058314954733539658 : Nat := 0
def Mine.top.tw14632489290957082403 : Nat := 0
def Mine.top.tw13120753694373217308 : Nat := 0
def Mine.top.tw9165953624949470791 : Nat := 0
def Mine.top.tw14747140909534839006 : Nat := 0
def Mine.top.tw877433047237710547 : Nat := 0
def Mine.top.tw4655869559712951663 : Nat := 0
def Mine.top.tw8622502720953521162 : Nat := 0
def Mine.top.tw3217022616335106338 : Nat := 0
def Mine.top.tw2758071753971750899 : Nat := 0
def Mine.top.tw390997316461189296 : Nat := 0
def Mine.top.tw4835499133494076262 : Nat := 0
def Mine.top.tw8531415777343470585 : Nat := 0
def Mine.top.tw1294077662247117797 : Nat := 0
def Mine.top.tw2741389259953327712 : Nat := 0
def Mine.top.tw196536941598035525 : Nat := 0
def Mine.top.tw16352630495959832749 : Nat := 0
def Mine.top.tw6196800358849779857 : Nat := 0
def Mine.top.tw12545222027267286695 : Nat := 0
def Mine.top.tw1195175773429642966 : Nat := 0
def Mine.top.tw14826035006057030972 : Nat := 0
def Mine.top.tw8694864300669457046 : Nat := 0
def Mine.top.tw2555065506035805374 : Nat := 0
def Mine.top.tw1142415686869020238 : Nat := 0
def Mine.top.tw15877122091014420850 : Nat := 0
def Mine.top.tw1617357707322924660 : Nat := 0
def Mine.top.tw4671429814451907529 : Nat := 0
def Mine.top.tw18086089286151905521 : Nat := 0
def Mine.top.tw8212240652046128837 : Nat := 0
def Mine.top.tw8043003576528973991 : Nat := 0
def Mine.top.tw5476889619067714990 : Nat := 0
def Mine.top.tw6520327441239513222 : Nat := 0
def Mine.top.tw16795567611416646642 : Nat := 0
def Mine.top.tw6662652255960138227 : Nat := 0
def Mine.top.tw9953747333497923681 : Nat := 0
def Mine.top.tw575894324575664597 : Nat := 0
def Mine.top.tw17315540178315561739 : Nat := 0
def Mine.top.tw2249405535684624136 : Nat := 0
def Mine.top.tw788273225186049534 : Nat := 0
def Mine.top.tw13303987763403120937 : Nat := 0
def Mine.top.tw3002795768020413707 : Nat := 0
def Mine.top.tw1638113669730673903 : Nat := 0
def Mine.top.tw16273406610938067001 : Nat := 0
def Mine.top.tw9614876229902214918 : Nat := 0
def Mine.top.tw7855079511596107753 : Nat := 0
def Mine.top.tw11203750815551599093 : Nat := 0
def Mine.top.tw15976228082101565994 : Nat := 0
def Mine.top.tw18245740138792012028 : Nat := 0
def Mine.top.tw4526881389914513428 : Nat := 0
def Mine.top.tw17565814175750979855 : Nat := 0
def Mine.top.tw14537839394382259888 : Nat := 0
def Mine.top.tw6189502492464219833 : Nat := 0
def Mine.top.tw427420600052151026 : Nat := 0
def Mine.top.tw14901070454687303710 : Nat := 0
def Mine.top.tw2369445192022557226 : Nat := 0
def Mine.top.tw7743179893348639699 : Nat := 0
def Mine.top.tw16821654228018055803 : Nat := 0
def Mine.top.tw11133666699803404755 : Nat := 0
def Mine.top.tw6027168181105674451 : Nat := 0
def Mine.top.tw105208000716104510 : Nat := 0
def Mine.top.tw2462062305354472974 : Nat := 0
def Mine.top.tw956942650209027819 : Nat := 0
def Mine.top.tw15058813355848621054 : Nat := 0
def Mine.top.tw6919701780365589675 : Nat := 0
def Mine.top.tw6973401727384321114 : Nat := 0
def Mine.top.tw4299629679881509495 : Nat := 0
def Mine.top.tw10187724287525710026 : Nat := 0
def Mine.top.tw1284575025550258836 : Nat := 0
def Mine.top.tw13710211086531791108 : Nat := 0
def Mine.top.tw4076138812419527698 : Nat := 0
def Mine.top.tw13799840507378627052 : Nat := 0
def Mine.top.tw1833847959688406909 : Nat := 0
def Mine.top.tw13223034962123697568 : Nat := 0
def Mine.top.tw864819663365544661 : Nat := 0
def Mine.top.tw15299407806266782574 : Nat := 0
def Mine.top.tw12094960947251128927 : Nat := 0
def Mine.top.tw9601329371697537090 : Nat := 0
def Mine.top.tw5155950481276406077 : Nat := 0
def Mine.top.tw4699463449715708850 : Nat := 0
def Mine.top.tw243287103678006315 : Nat := 0
def Mine.top.tw10101883266178500549 : Nat := 0
def Mine.top.tw5245862010334584759 : Nat := 0
def Mine.top.tw18034075008235765660 : Nat := 0
def Mine.top.tw17177869089781658578 : Nat := 0
def Mine.top.tw6505410396798821541 : Nat := 0
def Mine.top.tw18371284783138465269 : Nat := 0
def Mine.top.tw14282377253939248939 : Nat := 0
def Mine.top.tw3712731000106771831 : Nat := 0
def Mine.top.tw2924597203103170677 : Nat := 0
def Mine.top.tw16580785732701462914 : Nat := 0
def Mine.top.tw8874702517807110003 : Nat := 0
def Mine.top.tw6487610083215253720 : Nat := 0
def Mine.top.tw9913501989792142831 : Nat := 0
def Mine.top.tw12958502747184954254 : Nat := 0
def Mine.top.tw8410488445778877200 : Nat := 0
def Mine.top.tw620129878449983639 : Nat := 0
def Mine.top.tw6370870915552960936 : Nat := 0
def Mine.top.tw4058662728301269685 : Nat := 0
def Mine.top.tw9227057690007400460 : Nat := 0
def Mine.top.tw16415559393655328363 : Nat := 0
def Mine.top.tw860223938195835975 : Nat := 0
def Mine.top.tw887695700811335699 : Nat := 0
def Mine.top.tw12718909917080609646 : Nat := 0
def Mine.top.tw2867133514656366558 : Nat := 0
def Mine.top.tw3484022092364678248 : Nat := 0
def Mine.top.tw11845233108574324481 : Nat := 0
def Mine.top.tw1971433849790844608 : Nat := 0
def Mine.top.tw4205137553216949640 : Nat := 0
def Mine.top.tw4736427724481360342 : Nat := 0
def Mine.top.tw1291508964198565346 : Nat := 0
def Mine.top.tw16004416686337608138 : Nat := 0
def Mine.top.tw3378803678994701225 : Nat := 0
def Mine.top.tw14796646475526232899 : Nat := 0
def Mine.top.tw12764151676501842404 : Nat := 0
def Mine.top.tw11466170419677230873 : Nat := 0
def Mine.top.tw17699833187948243897 : Nat := 0
def Mine.top.tw13706816188851595723 : Nat := 0
def Mine.top.tw7847650389618582240 : Nat := 0
def Mine.top.tw14502225709538309166 : Nat := 0
def Mine.top.tw8810280945414196856 : Nat := 0
def Mine.top.tw2988451766255067171 : Nat := 0
def Mine.top.tw1123975283337734383 : Nat := 0
def Mine.top.tw14349089067433371257 : Nat := 0
def Mine.top.tw1275901062530889299 : Nat := 0
def Mine.top.tw13272337422414781067 : Nat := 0
def Mine.top.tw9229161468869434483 : Nat := 0
def Mine.top.tw11762496359356365647 : Nat := 0
def Mine.top.tw11922380849998532372 : Nat := 0
def Mine.top.tw10005945817407372193 : Nat := 0
def Mine.top.tw13369591340354186047 : Nat := 0
def Mine.top.tw3739144386018749749 : Nat := 0
def Mine.top.tw5088376156974544275 : Nat := 0
def Mine.top.tw1068965626710143233 : Nat := 0
def Mine.top.tw7458633546980236471 : Nat := 0
def Mine.top.tw15722756333993289495 : Nat := 0
def Mine.top.tw16759092144687519636 : Nat := 0
def Mine.top.tw18186074749648716422 : Nat := 0
def Mine.top.tw3474246075231452896 : Nat := 0
def Mine.top.tw17103177528636943170 : Nat := 0
def Mine.top.tw5225916559131626549 : Nat := 0
def Mine.top.tw1040915598704419856 : Nat := 0
def Mine.top.tw8146399340996573465 : Nat := 0
def Mine.top.tw14168018189251442112 : Nat := 0
def Mine.top.tw3337584539547039419 : Nat := 0
def Mine.top.tw8363718466572441477 : Nat := 0
def Mine.top.tw5105846836358774362 : Nat := 0
def Mine.top.tw9259421805112917234 : Nat := 0
def Mine.top.tw16782997733028217545 : Nat := 0
def Mine.top.tw1736530178072539846 : Nat := 0
def Mine.top.tw10195997230039290492 : Nat := 0
def Mine.top.tw1321871150748368714 : Nat := 0
def Mine.top.tw16174758807025615021 : Nat := 0
def Mine.top.tw216529984938456764 : Nat := 0
def Mine.top.tw15169761463676818070 : Nat := 0
def Mine.top.tw14608685727046917156 : Nat := 0
def Mine.top.tw1124271682379634556 : Nat := 0
def Mine.top.tw9366391650621772374 : Nat := 0
def Mine.top.tw7527032243904285869 : Nat := 0
def Mine.top.tw12376051458212225564 : Nat := 0
def Mine.top.tw14372152842798730730 : Nat := 0
def Mine.top.tw6664487174759623829 : Nat := 0
def Mine.top.tw17470836177267949868 : Nat := 0
def Mine.top.tw13091174067606910046 : Nat := 0
def Mine.top.tw17030962893124633753 : Nat := 0
def Mine.top.tw8265311939077410998 : Nat := 0
def Mine.top.tw3254097082911018636 : Nat := 0
def Mine.top.tw12483720753089274532 : Nat := 0
def Mine.top.tw4392038535549328194 : Nat := 0
def Mine.top.tw6180947092584011162 : Nat := 0
def Mine.top.tw17089494485692210459 : Nat := 0
def Mine.top.tw342308947776675178 : Nat := 0
def Mine.top.tw4713442408853163898 : Nat := 0
def Mine.top.tw5398424786039705171 : Nat := 0
def Mine.top.tw2514443458684651071 : Nat := 0
def Mine.top.tw7092665756404751892 : Nat := 0
def Mine.top.tw13345470168829271861 : Nat := 0
def Mine.top.tw16054190913257422852 : Nat := 0
def Mine.top.tw7830913209206220567 : Nat := 0
def Mine.top.tw11334415319851112604 : Nat := 0
def Mine.top.tw15646934709686841381 : Nat := 0
def Mine.top.tw7198060816514059695 : Nat := 0
def Mine.top.tw6898770573198911631 : Nat := 0
def Mine.top.tw11141966352661209427 : Nat := 0
def Mine.top.tw7386116660499605909 : Nat := 0
def Mine.top.tw15569959144833144457 : Nat := 0
def Mine.top.tw4321519831107876412 : Nat := 0
def Mine.top.tw10773188271377071773 : Nat := 0
def Mine.top.tw12166907935582030026 : Nat := 0
def Mine.top.tw3767615275625035234 : Nat := 0
def Mine.top.tw13326734554550294991 : Nat := 0
def Mine.top.tw14724332232928298890 : Nat := 0
def Mine.top.tw17355269125676882429 : Nat := 0
theorem Mine.top : PySem.Challenge.rw_xm0990_01.Holds := by
  w_on; o_law; k_head; (case hw => w_witness2)
  k_go0
  refine Mine.fin_run (by assumption) (by assumption) ?z1 ?z2 ?z3 (by assumption) (by assumption) rfl ?z4 (by assumption) ?z5 ?z6
  case z1 => assumption
  case z2 => assumption
  case z3 => assumption
  case z4 => exact Mine.list_at (by assumption) (by assumption) (by assumption)
  case z5 => omega
  case z6 =>
    intro s' k1 k2 r
    refine ⟨⟨.inl ⟨.bool true, .bool true, [], rfl, fun _ => rfl, .bool true, ?y1, fun _ => ⟨.nil, fun a ha => nomatch ha⟩⟩, k1, ?y2, ?y3⟩, k2⟩
    case y1 => kc_post
    case y2 => exact Mine.rest_os r
    case y3 => exact (Mine.rest_gens r).trans (by assumption)
end
theorem PySem.Challenge.cw_xm0990_01_holds : PySem.Challenge.rw_xm0990_01.Holds :=
  Mine.top
