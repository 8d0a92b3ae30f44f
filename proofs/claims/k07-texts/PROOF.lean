import PyProof.Rows.All
import Wide.All
import OpenK.AllK
import Wide.FinOn
import HandS.ForMost
import HandS.Exc
import HandS.TryOnly
import HandS.ExcOwn
import HandS.WordsExc
import HandS.CallSlots
import HandS.Wide
import HandS.Lambda
import HandS.ExcCtx
import HandS.TupAny
import HandS.TupMul
import HandS.IsInst
import HandS.Conv
import HandS.Zip
import HandS.Deep
import HandS.Replace
import HandS.RaiseMore
import HandS.StrMore
import HandS.HeadHook4
import HandS.HotCalls
import HandS.ExcIs
import HandS.Text
import HandS.Style
import HandS.Small
import HandS.WordsDict
import HandS.HeadWalk
import PySem.Challenge.RW_splituses_k07_texts
import KE.KStateDown
import HandS.Head0
import HandS.Head1
import HandS.Head2
set_option Elab.async false
set_option linter.all false
set_option maxRecDepth 100000
set_option maxHeartbeats 0
namespace DL
open PySem PySem.Spec PyProof.Rows L2
/-! ### data -/
inductive D where
  | non | bl (b : Bool) | int (i : Int) | str (s : List Nat) | tup (xs : List D) | lst (xs : List D) | cel (n : Nat) | fn (k : Nat) | hof | scr (xs : List D)
mutual
def D.beq : D → D → Bool
  | .non, .non => true
  | .bl a, .bl b => a == b
  | .int a, .int b => decide (a = b)
  | .str a, .str b => decide (a = b)
  | .tup a, .tup b => D.beqL a b
  | .lst a, .lst b => D.beqL a b
  | .cel a, .cel b => decide (a = b)
  | .fn a, .fn b => decide (a = b)
  | .hof, .hof => true
  | .scr a, .scr b => D.beqL a b
  | _, _ => false
def D.beqL : List D → List D → Bool
  | [], [] => true
  | a :: r, b :: q => D.beq a b && D.beqL r q
  | _, _ => false
end
mutual
theorem D.beq_eq : ∀ {a b : D}, D.beq a b = true → a = b := fun {a b} h => by
  cases a <;> cases b <;> first
    | (exfalso; simp [D.beq] at h; done)
    | rfl
    | (rename_i x y; have e : x = y := eq_of_beq (by simpa [D.beq] using h); rw [e])
    | (rename_i x y; have e : x = y := of_decide_eq_true (by simpa [D.beq] using h); rw [e])
    | (rename_i x y; rw [D.beqL_eq (a := x) (b := y) (by simpa [D.beq] using h)])
theorem D.beqL_eq : ∀ {a b : List D}, D.beqL a b = true → a = b
  | [], [], _ => rfl
  | [], _ :: _, h | _ :: _, [], h => by simp [D.beqL] at h
  | a :: r, b :: q, h => by
    obtain ⟨h1, h2⟩ := Bool.and_eq_true_iff.mp (show (D.beq a b && D.beqL r q) = true from by simpa [D.beqL] using h)
    rw [D.beq_eq h1, D.beqL_eq h2]
end
mutual
theorem D.beq_refl : ∀ a : D, D.beq a a = true
  | .non => rfl
  | .bl a => by simp [D.beq]
  | .int a => by simp [D.beq]
  | .str a => by simp [D.beq]
  | .tup a => by simp [D.beq, D.beqL_refl a]
  | .lst a => by simp [D.beq, D.beqL_refl a]
  | .cel a => by simp [D.beq]
  | .fn a => by simp [D.beq]
  | .hof => rfl
  | .scr a => by simp [D.beq, D.beqL_refl a]
theorem D.beqL_refl : ∀ a : List D, D.beqL a a = true
  | [] => rfl
  | a :: r => by simp [D.beqL, D.beq_refl a, D.beqL_refl r]
end
instance : DecidableEq D := fun a b => if h : D.beq a b = true then isTrue (D.beq_eq h) else isFalse fun e => h (by rw [e]; exact D.beq_refl b)
inductive Cell where
  | lst (xs : List D)
  | dct (kvs : List (Key × D))
  | dctL (kvs : List (Key × D))
  | ins (c : Nat) (fs : List (Str × D))
abbrev Store := List Cell
abbrev Env' := List (Option D)
/-- the tables that all promises speak over -/
structure Tb where
  fns : List Addr
  exs : Nat → Addr
  cls : Nat → Addr
  tabs : List (Addr × Str)
structure Gx where
  tb : Tb
  hf : Option Addr
  φ0 : List Addr
  H0 : Hp
  /-- lists that are being made: no value tells what stands there -/
  fx : List Addr
/-! ### what stays -/
structure Ext (φ : List Addr) (H : Hp) (φ' : List Addr) (H' : Hp) : Prop where
  pre : ∃ ψ, φ' = φ ++ ψ ∧ ∀ a ∈ ψ, H a = none
  keep : ∀ a o, H a = some o → a ∉ φ → (∀ ps, o ≠ .tbl ps) → H' a = some o
  tups : ∀ a xs, H a = some (.tup xs) → H' a = some (.tup xs)
  frzs : ∀ a o u, H a = some (.frz o u) → H' a = some (.frz o u)
  there : ∀ a, H a ≠ none → H' a ≠ none
theorem Ext.refl (φ : List Addr) (H : Hp) : Ext φ H φ H := ⟨⟨[], by simp, by simp⟩, fun _ _ h _ _ => h, fun _ _ h => h, fun _ _ _ h => h, fun _ h => h⟩
theorem Ext.trans {φ φ1 φ2 : List Addr} {H H1 H2 : Hp} (a : Ext φ H φ1 H1) (b : Ext φ1 H1 φ2 H2) : Ext φ H φ2 H2 := by
  obtain ⟨⟨ψ, e1, f1⟩, k1, t1, z1, th1⟩ := a
  obtain ⟨⟨ψ', e2, f2⟩, k2, t2, z2, th2⟩ := b
  have f2' : ∀ a ∈ ψ', H a = none := fun a ha => by
    cases q : H a with
    | none => rfl
    | some o => exact absurd (f2 a ha) (th1 a (by rw [q]; simp))
  refine ⟨⟨ψ ++ ψ', by rw [e2, e1, List.append_assoc], fun a ha => ?_⟩, fun a o h n q => ?_, fun a xs h => t2 a xs (t1 a xs h), fun a o u h => z2 a o u (z1 a o u h), fun a h => th2 a (th1 a h)⟩
  · rcases List.mem_append.mp ha with h | h
    · exact f1 a h
    · exact f2' a h
  · refine k2 a o (k1 a o h n q) (fun hm => ?_) q
    rw [e1] at hm
    rcases List.mem_append.mp hm with z | z
    · exact n z
    · rw [f1 a z] at h; cases h
theorem Ext.of_same {φ : List Addr} {H H' : Hp} (s : ∀ b o, H b = some o → H' b = some o) : Ext φ H φ H' :=
  ⟨⟨[], by simp, by simp⟩, fun a o h _ _ => s a o h, fun a xs h => s a _ h, fun a o u h => s a _ h, fun a h => by
    cases q : H a with
    | none => exact absurd q h
    | some o => rw [s a o q]; simp⟩
theorem Ext.new {φ : List Addr} {H : Hp} {p : Addr} {o : HO} (h : H p = none) : Ext φ H φ (upd H p o) := Ext.of_same fun b u e => by rw [upd_ne (ne_of_none e h)]; exact e
/-- the start of an anchored context -/
theorem Ext.start {φ : List Addr} {H : Hp} : Ext [] (fun _ => none) φ H := ⟨⟨φ, by simp, fun _ _ => rfl⟩, fun _ _ h => (by cases h), fun _ _ h => (by cases h), fun _ _ _ h => (by cases h), fun _ h => absurd rfl h⟩
/-! ### what a value stands for -/
mutual
inductive Rp (K : PySem.W.Frag) (G : Gx) (φ : List Addr) (H : Hp) : D → V → Prop where
  | non : Rp K G φ H .non .non
  | bl {b : Bool} : Rp K G φ H (.bl b) (.bl b)
  | int {i : Int} : Rp K G φ H (.int i) (.int i)
  | str {s : List Nat} : (s.all fun c => decide (c < 0x110000)) = true → Rp K G φ H (.str s) (.str ⟨s.toArray⟩)
  | tup {xs : List D} {a : Addr} {vs : List V} : SqT K H a vs → RpL K G φ H xs vs → Rp K G φ H (.tup xs) (.ref a)
  | lst {xs : List D} {a : Addr} {vs : List V} : H a = some (.lst vs) → a ∉ φ → a ∉ G.fx → RpL K G φ H xs vs → Rp K G φ H (.lst xs) (.ref a)
  | scr {xs : List D} {a : Addr} {vs : List V} : ((∃ o, H a = some (.frz o (.lst vs))) ∨ ∀ H, SqL K H a vs) → RpL K G φ H xs vs → Rp K G φ H (.scr xs) (.ref a)
  | cel {n : Nat} {a : Addr} : φ[n]? = some a → Rp K G φ H (.cel n) (.ref a)
  | fn {k : Nat} {a : Addr} : G.tb.fns[k]? = some a → Rp K G φ H (.fn k) (.ref a)
  | hof {a : Addr} : G.hf = some a → Rp K G φ H .hof (.ref a)
inductive RpL (K : PySem.W.Frag) (G : Gx) (φ : List Addr) (H : Hp) : List D → List V → Prop where
  | nil : RpL K G φ H [] []
  | cons {d : D} {v : V} {ds : List D} {vs : List V} : Rp K G φ H d v → RpL K G φ H ds vs → RpL K G φ H (d :: ds) (v :: vs)
end
section
variable {K : PySem.W.Frag} {G : Gx} {φ φ' : List Addr} {H H' : Hp}
theorem Ext.rd {a : Addr} {vs : List V} (x : Ext φ H φ' H') (h : H a = some (.lst vs)) (n : a ∉ φ) : H' a = some (.lst vs) ∧ a ∉ φ' := by
  obtain ⟨⟨ψ, e, f⟩, k, t, z, th⟩ := x
  refine ⟨k a _ h n (fun ps z => by cases z), fun hm => ?_⟩
  rw [e] at hm
  rcases List.mem_append.mp hm with z | z
  · exact n z
  · rw [f a z] at h
    cases h
theorem Ext.scr {a : Addr} {vs : List V} (x : Ext φ H φ' H') (h : (∃ o, H a = some (.frz o (.lst vs))) ∨ ∀ H, SqL K H a vs) : (∃ o, H' a = some (.frz o (.lst vs))) ∨ ∀ H, SqL K H a vs :=
  h.imp (fun ⟨o, h⟩ => ⟨o, x.frzs a o _ h⟩) fun h => h
theorem Ext.sqt {a : Addr} {vs : List V} (x : Ext φ H φ' H') (h : SqT K H a vs) : SqT K H' a vs := by
  rcases h with (h | ⟨o, h⟩) | h
  · exact .inl (.inl (x.tups a _ h))
  · exact .inl (.inr ⟨o, x.frzs a _ _ h⟩)
  · exact .inr h
theorem Ext.at {n : Nat} {a : Addr} (x : Ext φ H φ' H') (h : φ[n]? = some a) : φ'[n]? = some a := by
  obtain ⟨⟨ψ, e, f⟩, _⟩ := x
  rw [e, List.getElem?_append_left (List.getElem?_eq_some_iff.mp h).1]
  exact h
mutual
theorem Rp.mono (x : Ext φ H φ' H') : ∀ {d : D} {v : V}, Rp K G φ H d v → Rp K G φ' H' d v
  | _, _, .non => .non
  | _, _, .bl => .bl
  | _, _, .int => .int
  | _, _, .str h => .str h
  | _, _, .tup h r => .tup (x.sqt h) (RpL.mono x r)
  | _, _, .lst h n z r => .lst (x.rd h n).1 (x.rd h n).2 z (RpL.mono x r)
  | _, _, .scr h r => .scr (x.scr h) (RpL.mono x r)
  | _, _, .cel h => .cel (x.at h)
  | _, _, .fn h => .fn h
  | _, _, .hof h => .hof h
theorem RpL.mono (x : Ext φ H φ' H') : ∀ {ds : List D} {vs : List V}, RpL K G φ H ds vs → RpL K G φ' H' ds vs
  | _, _, .nil => .nil
  | _, _, .cons h r => .cons (Rp.mono x h) (RpL.mono x r)
end
theorem RpL.length : ∀ {ds : List D} {vs : List V}, RpL K G φ H ds vs → ds.length = vs.length
  | _, _, .nil => rfl
  | _, _, .cons _ r => by rw [List.length_cons, List.length_cons, r.length]
theorem RpL.get : ∀ {ds : List D} {vs : List V} {i : Nat} {d : D}, RpL K G φ H ds vs → ds[i]? = some d → ∃ v, vs[i]? = some v ∧ Rp K G φ H d v
  | _, _, _, _, .nil, e => by simp at e
  | _, _, 0, _, .cons r _, e => by simp at e; subst e; exact ⟨_, rfl, r⟩
  | _, _, i + 1, d, .cons _ t, e => by
    obtain ⟨u, h1, h2⟩ := RpL.get (i := i) (d := d) t (by simpa using e)
    exact ⟨u, by simpa using h1, h2⟩
theorem RpL.get' : ∀ {ds : List D} {vs : List V} {i : Nat} {v : V}, RpL K G φ H ds vs → vs[i]? = some v → ∃ d, ds[i]? = some d ∧ Rp K G φ H d v
  | _, _, _, _, .nil, e => by simp at e
  | _, _, 0, _, .cons r _, e => by simp at e; subst e; exact ⟨_, rfl, r⟩
  | _, _, i + 1, d, .cons _ t, e => by
    obtain ⟨u, h1, h2⟩ := RpL.get' (i := i) (v := d) t (by simpa using e)
    exact ⟨u, by simpa using h1, h2⟩
theorem RpL.append : ∀ {xs ys : List D} {us ws : List V}, RpL K G φ H xs us → RpL K G φ H ys ws → RpL K G φ H (xs ++ ys) (us ++ ws)
  | _, _, _, _, .nil, s => s
  | _, _, _, _, .cons r t, s => .cons r (RpL.append t s)
theorem RpL.take : ∀ {xs : List D} {us : List V} (n : Nat), RpL K G φ H xs us → RpL K G φ H (xs.take n) (us.take n)
  | _, _, 0, _ => .nil
  | _, _, _ + 1, .nil => .nil
  | _, _, n + 1, .cons r t => .cons r (RpL.take n t)
theorem RpL.drop : ∀ {xs : List D} {us : List V} (n : Nat), RpL K G φ H xs us → RpL K G φ H (xs.drop n) (us.drop n)
  | _, _, 0, r => r
  | _, _, _ + 1, .nil => .nil
  | _, _, n + 1, .cons _ t => RpL.drop n t
theorem RpL.set {d : D} {v : V} (r : Rp K G φ H d v) : ∀ {xs : List D} {us : List V} (n : Nat), RpL K G φ H xs us → RpL K G φ H (xs.set n d) (us.set n v)
  | _, _, _, .nil => .nil
  | _, _, 0, .cons _ t => .cons r t
  | _, _, n + 1, .cons q t => .cons q (RpL.set r n t)
theorem RpL.reverse : ∀ {xs : List D} {us : List V}, RpL K G φ H xs us → RpL K G φ H xs.reverse us.reverse
  | _, _, .nil => .nil
  | _, _, .cons r t => by
    rw [List.reverse_cons, List.reverse_cons]
    exact (RpL.reverse t).append (.cons r .nil)
theorem RpL.snoc {xs : List D} {us : List V} {d : D} {v : V} (r : RpL K G φ H xs us) (q : Rp K G φ H d v) : RpL K G φ H (xs ++ [d]) (us ++ [v]) := r.append (.cons q .nil)
/-! ### the store -/
inductive RpF (K : PySem.W.Frag) (G : Gx) (φ : List Addr) (H : Hp) : List (Str × D) → List (Str × V) → Prop where
  | nil : RpF K G φ H [] []
  | cons {f : Str} {d : D} {v : V} {ds : List (Str × D)} {vs : List (Str × V)} : Rp K G φ H d v → RpF K G φ H ds vs → RpF K G φ H ((f, d) :: ds) ((f, v) :: vs)
inductive RpK (K : PySem.W.Frag) (G : Gx) (φ : List Addr) (H : Hp) : List (Key × D) → List (Key × V) → Prop where
  | nil : RpK K G φ H [] []
  | cons {f : Key} {d : D} {v : V} {ds : List (Key × D)} {vs : List (Key × V)} : Rp K G φ H d v → RpK K G φ H ds vs → RpK K G φ H ((f, d) :: ds) ((f, v) :: vs)
theorem RpF.mono (x : Ext φ H φ' H') : ∀ {ds : List (Str × D)} {vs : List (Str × V)}, RpF K G φ H ds vs → RpF K G φ' H' ds vs
  | _, _, .nil => .nil
  | _, _, .cons h r => .cons (Rp.mono x h) (RpF.mono x r)
theorem RpK.mono (x : Ext φ H φ' H') : ∀ {ds : List (Key × D)} {vs : List (Key × V)}, RpK K G φ H ds vs → RpK K G φ' H' ds vs
  | _, _, .nil => .nil
  | _, _, .cons h r => .cons (Rp.mono x h) (RpK.mono x r)
/-- what stands at a cell's address -/
inductive CellOk (K : PySem.W.Frag) (G : Gx) (φ : List Addr) (H : Hp) : Cell → HO → Prop where
  | lst {xs : List D} {vs : List V} : RpL K G φ H xs vs → CellOk K G φ H (.lst xs) (.lst vs)
  | dct {xs : List (Key × D)} {vs : List (Key × V)} : RpK K G φ H xs vs → CellOk K G φ H (.dct xs) (.dK vs)
  | dctZ {xs : List (Key × D)} {vs : List (Key × V)} {o : Obj} : RpK K G φ H xs vs → CellOk K G φ H (.dctL xs) (.frz o (.dK vs))
  | ins {c : Nat} {dx : Addr} {fs : List (Str × D)} {vs : List (Str × V)} : RpF K G φ H fs vs → CellOk K G φ H (.ins c fs) (.ins (G.tb.cls c) dx vs)
theorem CellOk.mono (x : Ext φ H φ' H') {c : Cell} {o : HO} (h : CellOk K G φ H c o) : CellOk K G φ' H' c o := by
  cases h with
  | lst r => exact .lst (r.mono x)
  | dct r => exact .dct (r.mono x)
  | dctZ r => exact .dctZ (r.mono x)
  | ins r => exact .ins (r.mono x)
structure StOk (K : PySem.W.Frag) (G : Gx) (φ : List Addr) (H : Hp) (st : Store) : Prop where
  len : φ.length = st.length
  nd : φ.Nodup
  cell : ∀ (n : Nat) (c : Cell) (a : Addr), st[n]? = some c → φ[n]? = some a → ∃ o, H a = some o ∧ CellOk K G φ H c o
  tabs : LamX.Tabs G.tb.tabs H
  anc : Ext G.φ0 G.H0 φ H
  fx : ∀ a ∈ G.fx, H a ≠ none
  fd : ∀ a ∈ G.fx, a ∉ φ
theorem StOk.same {st : Store} (s : StOk K G φ H st) (k : ∀ b o, H b = some o → H' b = some o) : StOk K G φ H' st where
  len := s.len
  nd := s.nd
  cell := fun n c a h1 h2 => by
    obtain ⟨o, e, r⟩ := s.cell n c a h1 h2
    exact ⟨o, k _ _ e, r.mono (Ext.of_same k)⟩
  tabs := s.tabs.ext k
  anc := s.anc.trans (Ext.of_same k)
  fx := fun a h => (Ext.of_same (φ := φ) k).there a (s.fx a h)
  fd := s.fd
theorem StOk.at {st : Store} (s : StOk K G φ H st) {n : Nat} {c : Cell} (h : st[n]? = some c) : ∃ a o, φ[n]? = some a ∧ H a = some o ∧ CellOk K G φ H c o := by
  have hn : n < φ.length := by
    rw [s.len]
    exact (List.getElem?_eq_some_iff.mp h).1
  obtain ⟨o, e, r⟩ := s.cell n c φ[n] h (List.getElem?_eq_getElem hn)
  exact ⟨_, o, List.getElem?_eq_getElem hn, e, r⟩
theorem StOk.new {st : Store} (s : StOk K G φ H st) {p : Addr} {o : HO} (h : H p = none) : StOk K G φ (upd H p o) st := s.same fun b u e => by rw [upd_ne (ne_of_none e h)]; exact e
theorem StOk.nofx {st : Store} (s : StOk K G φ H st) {p : Addr} (h : H p = none) : p ∉ G.fx := fun m => s.fx p m h
/-- over any lists in the making -/
abbrev Gx.fl (G : Gx) (fx : List Addr) : Gx := { G with fx := fx }
section
variable {fx : List Addr}
mutual
theorem Rp.fl (n : ∀ a ∈ fx, a ∈ G.fx ∨ H a = none) : ∀ {d : D} {v : V}, Rp K G φ H d v → Rp K (G.fl fx) φ H d v
  | _, _, .non => .non
  | _, _, .bl => .bl
  | _, _, .int => .int
  | _, _, .str h => .str h
  | _, _, .tup h r => .tup h (RpL.fl n r)
  | _, _, .lst (a := b) h m z r => .lst h m (fun hm => (n b hm).elim z (fun e => by
      rw [e] at h
      cases h)) (RpL.fl n r)
  | _, _, .scr h r => .scr h (RpL.fl n r)
  | _, _, .cel h => .cel h
  | _, _, .fn h => .fn h
  | _, _, .hof h => .hof h
theorem RpL.fl (n : ∀ a ∈ fx, a ∈ G.fx ∨ H a = none) : ∀ {ds : List D} {vs : List V}, RpL K G φ H ds vs → RpL K (G.fl fx) φ H ds vs
  | _, _, .nil => .nil
  | _, _, .cons h r => .cons (Rp.fl n h) (RpL.fl n r)
end
end
/-- one more list in the making -/
abbrev Gx.plus (G : Gx) (a : Addr) : Gx := { G with fx := a :: G.fx }
section
variable {a : Addr}
mutual
theorem Rp.plus (n : H a = none) : ∀ {d : D} {v : V}, Rp K G φ H d v → Rp K (G.plus a) φ H d v
  | _, _, .non => .non
  | _, _, .bl => .bl
  | _, _, .int => .int
  | _, _, .str h => .str h
  | _, _, .tup h r => .tup h (RpL.plus n r)
  | _, _, .lst (a := b) h m z r => .lst h m (fun hm => (List.mem_cons.mp hm).elim (fun e => by
      rw [e, n] at h
      cases h) z) (RpL.plus n r)
  | _, _, .scr h r => .scr h (RpL.plus n r)
  | _, _, .cel h => .cel h
  | _, _, .fn h => .fn h
  | _, _, .hof h => .hof h
theorem RpL.plus (n : H a = none) : ∀ {ds : List D} {vs : List V}, RpL K G φ H ds vs → RpL K (G.plus a) φ H ds vs
  | _, _, .nil => .nil
  | _, _, .cons h r => .cons (Rp.plus n h) (RpL.plus n r)
end
mutual
theorem Rp.minus : ∀ {d : D} {v : V}, Rp K (G.plus a) φ H d v → Rp K G φ H d v
  | _, _, .non => .non
  | _, _, .bl => .bl
  | _, _, .int => .int
  | _, _, .str h => .str h
  | _, _, .tup h r => .tup h (RpL.minus r)
  | _, _, .lst h m z r => .lst h m (fun hm => z (List.mem_cons_of_mem _ hm)) (RpL.minus r)
  | _, _, .scr h r => .scr h (RpL.minus r)
  | _, _, .cel h => .cel h
  | _, _, .fn h => .fn h
  | _, _, .hof h => .hof h
theorem RpL.minus : ∀ {ds : List D} {vs : List V}, RpL K (G.plus a) φ H ds vs → RpL K G φ H ds vs
  | _, _, .nil => .nil
  | _, _, .cons h r => .cons (Rp.minus h) (RpL.minus r)
end
theorem RpF.plus (n : H a = none) : ∀ {ds : List (Str × D)} {vs : List (Str × V)}, RpF K G φ H ds vs → RpF K (G.plus a) φ H ds vs
  | _, _, .nil => .nil
  | _, _, .cons h r => .cons (Rp.plus n h) (RpF.plus n r)
theorem RpK.plus (n : H a = none) : ∀ {ds : List (Key × D)} {vs : List (Key × V)}, RpK K G φ H ds vs → RpK K (G.plus a) φ H ds vs
  | _, _, .nil => .nil
  | _, _, .cons h r => .cons (Rp.plus n h) (RpK.plus n r)
theorem RpF.minus : ∀ {ds : List (Str × D)} {vs : List (Str × V)}, RpF K (G.plus a) φ H ds vs → RpF K G φ H ds vs
  | _, _, .nil => .nil
  | _, _, .cons h r => .cons (Rp.minus h) (RpF.minus r)
theorem RpK.minus : ∀ {ds : List (Key × D)} {vs : List (Key × V)}, RpK K (G.plus a) φ H ds vs → RpK K G φ H ds vs
  | _, _, .nil => .nil
  | _, _, .cons h r => .cons (Rp.minus h) (RpK.minus r)
theorem CellOk.plus (n : H a = none) {c : Cell} {o : HO} (h : CellOk K G φ H c o) : CellOk K (G.plus a) φ H c o := by
  cases h with
  | lst r => exact .lst (r.plus n)
  | dct r => exact .dct (r.plus n)
  | dctZ r => exact .dctZ (r.plus n)
  | ins r => exact .ins (G := G.plus a) (r.plus n)
theorem CellOk.minus {c : Cell} {o : HO} (h : CellOk K (G.plus a) φ H c o) : CellOk K G φ H c o := by
  cases h with
  | lst r => exact .lst r.minus
  | dct r => exact .dct r.minus
  | dctZ r => exact .dctZ r.minus
  | ins r => exact .ins (G := G) r.minus
/-- a list is begun -/
theorem StOk.fresh {st : Store} (s : StOk K G φ H st) {p : Addr} (n : H p = none) : p ∉ φ := fun hm => by
  obtain ⟨i, hi, e⟩ := List.getElem_of_mem hm
  have h2 : i < st.length := by rw [← s.len]; exact hi
  obtain ⟨o, e1, _⟩ := s.cell i st[i] p (List.getElem?_eq_getElem h2) (by rw [List.getElem?_eq_getElem hi, e])
  rw [n] at e1
  cases e1
theorem StOk.plus {st : Store} {o : HO} (s : StOk K G φ H st) (n : H a = none) : StOk K (G.plus a) φ (upd H a o) st := by
  have s' := s.new (o := o) n
  have x : Ext φ H φ (upd H a o) := Ext.new n
  refine ⟨s.len, s.nd, fun i c b h1 h2 => ?_, s'.tabs, s'.anc, fun b hb => ?_, fun b hb => (List.mem_cons.mp hb).elim (fun e => by rw [e]; exact s.fresh n) (s.fd b)⟩
  · obtain ⟨u, e1, e2⟩ := s.cell i c b h1 h2
    exact ⟨u, by rw [upd_ne (ne_of_none e1 n)]; exact e1, (e2.plus n).mono x⟩
  · rcases List.mem_cons.mp hb with e | e
    · rw [e, upd_same]; simp
    · exact s'.fx b e
theorem StOk.minus {st : Store} (s : StOk K (G.plus a) φ H st) : StOk K G φ H st :=
  ⟨s.len, s.nd, fun i c b h1 h2 => by
    obtain ⟨u, e1, e2⟩ := s.cell i c b h1 h2
    exact ⟨u, e1, e2.minus⟩, s.tabs, s.anc, fun b hb => s.fx b (List.mem_cons_of_mem _ hb), fun b hb => s.fd b (List.mem_cons_of_mem _ hb)⟩
/-- what is told speaks not of a list in the making -/
theorem Ext.fluxRd {b : Addr} {u : HO} {xs ys : List V} (h : H a = some (.lst xs)) (r : Rd H b u) (n : b ≠ a) : Rd (upd H a (.lst ys)) b u := by
  rcases r with r | ⟨o, r⟩
  · exact .inl (by rw [upd_ne n]; exact r)
  · exact .inr ⟨o, by rw [upd_ne n]; exact r⟩
mutual
theorem Rp.flux {xs ys : List V} (h : H a = some (.lst xs)) (m : a ∈ G.fx) : ∀ {d : D} {v : V}, Rp K G φ H d v → Rp K G φ (upd H a (.lst ys)) d v
  | _, _, .non => .non
  | _, _, .bl => .bl
  | _, _, .int => .int
  | _, _, .str h => .str h
  | _, _, .tup (a := b) t r => .tup (by
      rcases t with t | t
      · refine .inl (Ext.fluxRd h t fun e => ?_)
        rcases t with t | ⟨o, t⟩ <;> rw [e, h] at t <;> cases t
      · exact .inr t) (RpL.flux h m r)
  | _, _, .lst r n z q => .lst (by rw [upd_ne fun e => z (by rw [e]; exact m)]; exact r) n z (RpL.flux h m q)
  | _, _, .scr (a := b) t r => .scr (t.imp (fun ⟨o, t⟩ => ⟨o, by rw [upd_ne fun e => by rw [e, h] at t; cases t]; exact t⟩) fun t => t) (RpL.flux h m r)
  | _, _, .cel t => .cel t
  | _, _, .fn t => .fn t
  | _, _, .hof t => .hof t
theorem RpL.flux {xs ys : List V} (h : H a = some (.lst xs)) (m : a ∈ G.fx) : ∀ {ds : List D} {vs : List V}, RpL K G φ H ds vs → RpL K G φ (upd H a (.lst ys)) ds vs
  | _, _, .nil => .nil
  | _, _, .cons t r => .cons (Rp.flux h m t) (RpL.flux h m r)
end
theorem RpF.flux {xs ys : List V} (h : H a = some (.lst xs)) (m : a ∈ G.fx) : ∀ {ds : List (Str × D)} {vs : List (Str × V)}, RpF K G φ H ds vs → RpF K G φ (upd H a (.lst ys)) ds vs
  | _, _, .nil => .nil
  | _, _, .cons t r => .cons (Rp.flux h m t) (RpF.flux h m r)
theorem RpK.flux {xs ys : List V} (h : H a = some (.lst xs)) (m : a ∈ G.fx) : ∀ {ds : List (Key × D)} {vs : List (Key × V)}, RpK K G φ H ds vs → RpK K G φ (upd H a (.lst ys)) ds vs
  | _, _, .nil => .nil
  | _, _, .cons t r => .cons (Rp.flux h m t) (RpK.flux h m r)
theorem StOk.flux {st : Store} {xs ys : List V} (s : StOk K G φ H st) (h : H a = some (.lst xs)) (m : a ∈ G.fx) (n : a ∉ φ) (hanc : Ext G.φ0 G.H0 φ (upd H a (.lst ys))) : StOk K G φ (upd H a (.lst ys)) st := by
  refine ⟨s.len, s.nd, fun i c b h1 h2 => ?_, fun p hp => ?_, hanc, fun b hb => ?_, s.fd⟩
  · obtain ⟨u, e1, e2⟩ := s.cell i c b h1 h2
    have hne : b ≠ a := fun e => n (by rw [← e]; exact List.mem_of_getElem? h2)
    refine ⟨u, by rw [upd_ne hne]; exact e1, ?_⟩
    cases e2 with
    | lst r => exact .lst (r.flux h m)
    | dct r => exact .dct (r.flux h m)
    | dctZ r => exact .dctZ (r.flux h m)
    | ins r => exact .ins (r.flux h m)
  · obtain ⟨ps, h1, h2, h3⟩ := s.tabs p hp
    have hne : ∀ b u, H b = some u → (∀ z, u ≠ .lst z) → upd H a (.lst ys) b = some u := fun b u e z => by
      have hb : b ≠ a := fun q => by
        rw [q, h] at e
        exact z xs (Option.some.inj e).symm
      rw [upd_ne hb]
      exact e
    refine ⟨ps, hne _ _ h1 (fun z q => by cases q), h2, fun pos cv hc => ?_⟩
    obtain ⟨c, e1, e2⟩ := h3 pos cv hc
    exact ⟨c, e1, hne _ _ e2 (fun z q => by unfold LamX.CodeO at q; cases q)⟩
  · by_cases e : b = a
    · rw [e, upd_same]; simp
    · rw [upd_ne e]; exact s.fx b hb
end
end
end DL
namespace DL
open PySem PySem.Spec PyProof.Rows L2
abbrev St := L2.St
/-! ### results -/
inductive R (α : Type) where
  | ok (a : α) (st : Store)
  | exc (c : Nat) (st : Store)
  | bad
abbrev M (α : Type) := Store → R α
def ret {α : Type} (a : α) : M α := fun st => .ok a st
def bnd {α β : Type} (m : M α) (f : α → M β) : M β := fun st => match m st with
  | .ok a st' => f a st'
  | .exc c st' => .exc c st'
  | .bad => .bad
def fail {α : Type} : M α := fun _ => .bad
def chk (b : Bool) {α : Type} (m : M α) : M α := match b with
  | true => m
  | false => fail
/-- a statement's result -/
inductive RS where
  | nx (ρ : Env') (st : Store)
  | rt (d : D) (st : Store)
  | bk (ρ : Env') (st : Store)
  | ct (ρ : Env') (st : Store)
  | exc (c : Nat) (ρ : Env') (st : Store)
  | bad
abbrev MS := Env' → Store → RS
structure EnvOk (K : PySem.W.Frag) (G : Gx) (φ : List Addr) (H : Hp) (σ : St) (ρ : Env') : Prop where
  len : σ.length = ρ.length
  get : ∀ (i : Nat) (d : D), ρ[i]? = some (some d) → ∃ v, σ[i]? = some (some v) ∧ Rp K G φ H d v
section
variable {K : PySem.W.Frag} {G : Gx} {φ φ' : List Addr} {H H' : Hp} {σ : St} {ρ : Env'} {st : Store}
theorem EnvOk.mono (x : Ext φ H φ' H') (e : EnvOk K G φ H σ ρ) : EnvOk K G φ' H' σ ρ := ⟨e.len, fun i d h => by
  obtain ⟨v, h1, h2⟩ := e.get i d h
  exact ⟨v, h1, h2.mono x⟩⟩
theorem EnvOk.set (e : EnvOk K G φ H σ ρ) {i : Nat} {d : D} {v : V} (r : Rp K G φ H d v) : EnvOk K G φ H (σ.set i (some v)) (ρ.set i (some d)) := by
  refine ⟨by rw [List.length_set, List.length_set, e.len], fun j d' h => ?_⟩
  by_cases hij : i = j
  · subst hij
    have hi : i < ρ.length := by
      have := (List.getElem?_eq_some_iff.mp h).1
      rwa [List.length_set] at this
    rw [List.getElem?_set_self hi] at h
    cases h
    exact ⟨v, by rw [List.getElem?_set_self (by rw [e.len]; exact hi)], r⟩
  · rw [List.getElem?_set_ne hij] at h
    obtain ⟨u, h1, h2⟩ := e.get j d' h
    exact ⟨u, by rw [List.getElem?_set_ne hij]; exact h1, h2⟩
theorem EnvOk.forget (e : EnvOk K G φ H σ ρ) (i : Nat) : EnvOk K G φ H (σ.set i none) (ρ.set i none) := by
  refine ⟨by rw [List.length_set, List.length_set, e.len], fun j d' h => ?_⟩
  by_cases hij : i = j
  · subst hij
    have hi : i < ρ.length := by
      have := (List.getElem?_eq_some_iff.mp h).1
      rwa [List.length_set] at this
    rw [List.getElem?_set_self hi] at h
    cases h
  · rw [List.getElem?_set_ne hij] at h
    obtain ⟨u, h1, h2⟩ := e.get j d' h
    exact ⟨u, by rw [List.getElem?_set_ne hij]; exact h1, h2⟩
end
structure SOk (K : PySem.W.Frag) (G : Gx) (φ : List Addr) (H : Hp) (σ : St) (ρ : Env') (st : Store) : Prop where
  s : StOk K G φ H st
  e : EnvOk K G φ H σ ρ
def Post (K : PySem.W.Frag) (G : Gx) (W : WX) (σ : St) (φ : List Addr) (H : Hp) {α : Type} (r : R α) (Q : α → Store → List Addr → Hp → Prop) : Prop := match r with
  | .ok a st' => ∀ φ' H', Ext φ H φ' H' → StOk K G φ' H' st' → Q a st' φ' H'
  | .exc c st' => ∀ φ' H', Ext φ H φ' H' → StOk K G φ' H' st' → W (.ref (G.tb.exs c)) none σ H'
  | .bad => False
section
variable {K : PySem.W.Frag} {G : Gx} {W : WX} {σ : St} {φ φ' : List Addr} {H H' : Hp} {ρ : Env'} {st : Store} {α β : Type}
theorem Post.ext {r : R α} {Q : α → Store → List Addr → Hp → Prop} (x : Ext φ H φ' H') (h : Post K G W σ φ H r Q) : Post K G W σ φ' H' r Q := by
  cases r with
  | ok a st' => exact fun φ2 H2 x2 s => h φ2 H2 (x.trans x2) s
  | exc c st' => exact fun φ2 H2 x2 s => h φ2 H2 (x.trans x2) s
  | bad => exact h
theorem Post.imp {r : R α} {Q Q' : α → Store → List Addr → Hp → Prop} (h : Post K G W σ φ H r Q) (q : ∀ a st φ' H', Ext φ H φ' H' → StOk K G φ' H' st → Q a st φ' H' → Q' a st φ' H') : Post K G W σ φ H r Q' := by
  cases r with
  | ok a st' => exact fun φ2 H2 x2 s => q _ _ _ _ x2 s (h φ2 H2 x2 s)
  | exc c st' => exact h
  | bad => exact h
theorem Post.bind {m : M α} {f : α → M β} {Q : β → Store → List Addr → Hp → Prop} (h : Post K G W σ φ H (bnd m f st) Q) :
    Post K G W σ φ H (m st) fun a st1 φ1 H1 => Post K G W σ φ1 H1 (f a st1) Q := by
  unfold bnd at h
  cases e : m st with
  | ok a st' =>
    rw [e] at h
    exact fun φ2 H2 x2 s => Post.ext x2 h
  | exc c st' =>
    rw [e] at h
    exact h
  | bad =>
    rw [e] at h
    exact h
theorem Post.chk {b : Bool} {m : M α} {Q : α → Store → List Addr → Hp → Prop} (h : Post K G W σ φ H (chk b m st) Q) : b = true ∧ Post K G W σ φ H (m st) Q := by
  cases b with
  | true => exact ⟨rfl, h⟩
  | false => exact h.elim
end
/-! ### readings -/
def tM (K : PySem.W.Frag) (G : Gx) (W : WX) (m : Env' → M D) : TE := fun σ H Q => ∃ φ ρ st, SOk K G φ H σ ρ st ∧ Post K G W σ φ H (m ρ st) fun d _ φ' H' => ∀ v, Rp K G φ' H' d v → Q v H'
def tMB (K : PySem.W.Frag) (G : Gx) (W : WX) (m : Env' → M Bool) : TT := fun σ H Q => ∃ φ ρ st, SOk K G φ H σ ρ st ∧ Post K G W σ φ H (m ρ st) fun b _ _ H' => Q b H'
def tML (K : PySem.W.Frag) (G : Gx) (W : WX) (m : Env' → M (List D)) : TA := fun σ H Q => ∃ φ ρ st, SOk K G φ H σ ρ st ∧ Post K G W σ φ H (m ρ st) fun ds _ φ' H' => ∀ vs, RpL K G φ' H' ds vs → Q vs H'
def PostS (K : PySem.W.Frag) (G : Gx) (W : WX) (φ : List Addr) (H : Hp) (r : RS) (D : Ends) : Prop := match r with
  | .nx ρ st => ∀ φ' H' σ', Ext φ H φ' H' → SOk K G φ' H' σ' ρ st → D.nx σ' H'
  | .rt d st => ∀ φ' H' v, Ext φ H φ' H' → StOk K G φ' H' st → Rp K G φ' H' d v → D.rt v H'
  | .bk ρ st => ∀ φ' H' σ', Ext φ H φ' H' → SOk K G φ' H' σ' ρ st → D.bk σ' H'
  | .ct ρ st => ∀ φ' H' σ', Ext φ H φ' H' → SOk K G φ' H' σ' ρ st → D.ct σ' H'
  | .exc c ρ st => ∀ φ' H' σ', Ext φ H φ' H' → SOk K G φ' H' σ' ρ st → W (.ref (G.tb.exs c)) none σ' H'
  | .bad => False
def tMS (K : PySem.W.Frag) (G : Gx) (W : WX) (m : MS) : TS := fun D σ H => ∃ φ ρ st, SOk K G φ H σ ρ st ∧ PostS K G W φ H (m ρ st) D
abbrev ME (X : Cx) (G : Gx) (W : WX) (e : Expr) (m : Env' → M D) : Prop := PE X e (tM X.K G W m)
abbrev MT (X : Cx) (G : Gx) (W : WX) (e : Expr) (m : Env' → M Bool) : Prop := PT X e (tMB X.K G W m)
abbrev MA (X : Cx) (G : Gx) (W : WX) (es : List Expr) (m : Env' → M (List D)) : Prop := PA X es (tML X.K G W m)
abbrev ST (X : Cx) (G : Gx) (W : WX) (s : Stmt) (m : MS) : Prop := PS X s (tMS X.K G W m)
abbrev SS (X : Cx) (G : Gx) (W : WX) (s : List Stmt) (m : MS) : Prop := PSs X s (tMS X.K G W m)
section
variable {X : Cx}
theorem peImp {e : Expr} {t t' : TE} (h : PE X e t) (i : ∀ σ H Q, t' σ H Q → t σ H Q) : PE X e t' := ⟨fun pins s σ H Q I hw => h.run pins s σ H Q I (i σ H Q hw)⟩
theorem ptImp {e : Expr} {t t' : TT} (h : PT X e t) (i : ∀ σ H Q, t' σ H Q → t σ H Q) : PT X e t' := ⟨fun pins s σ H Q I hw => h.run pins s σ H Q I (i σ H Q hw)⟩
theorem pwImp {e : Expr} {t t' : TT} (h : PW X e t) (i : ∀ σ H Q, t' σ H Q → t σ H Q) : PW X e t' := ⟨fun wh pins s σ H Q I hw => h.run wh pins s σ H Q I (i σ H Q hw)⟩
theorem paImp {e : List Expr} {t t' : TA} (h : PA X e t) (i : ∀ σ H Q, t' σ H Q → t σ H Q) : PA X e t' := ⟨fun p pins s σ H Q I hw => h.run p pins s σ H Q I (i σ H Q hw)⟩
theorem psImp {e : Stmt} {t t' : TS} (h : PS X e t) (i : ∀ D σ H, t' D σ H → t D σ H) : PS X e t' := ⟨fun pins s σ H D I hw => h.run pins s σ H D I (i D σ H hw)⟩
theorem pssImp {e : List Stmt} {t t' : TS} (h : PSs X e t) (i : ∀ D σ H, t' D σ H → t D σ H) : PSs X e t' := ⟨fun pins s σ H D I hw => h.run pins s σ H D I (i D σ H hw)⟩
end
section
variable {X : Cx} {G : Gx} {W : WX} {σ : St} {φ : List Addr} {H : Hp} {ρ : Env'} {st : Store}
/-- the way of a first part -/
theorem tM_of {m : Env' → M D} {Q : VK} {R : D → Store → List Addr → Hp → Prop} (so : SOk X.K G φ H σ ρ st) (h : Post X.K G W σ φ H (m ρ st) R)
    (q : ∀ d st1 φ1 H1 v, Ext φ H φ1 H1 → SOk X.K G φ1 H1 σ ρ st1 → Rp X.K G φ1 H1 d v → R d st1 φ1 H1 → Q v H1) : tM X.K G W m σ H Q :=
  ⟨φ, ρ, st, so, h.imp fun d st1 φ1 H1 x s r v rv => q d st1 φ1 H1 v x ⟨s, so.e.mono x⟩ rv r⟩
theorem tMB_of {m : Env' → M Bool} {Q : Bool → Hp → Prop} {R : Bool → Store → List Addr → Hp → Prop} (so : SOk X.K G φ H σ ρ st) (h : Post X.K G W σ φ H (m ρ st) R)
    (q : ∀ d st1 φ1 H1, Ext φ H φ1 H1 → SOk X.K G φ1 H1 σ ρ st1 → R d st1 φ1 H1 → Q d H1) : tMB X.K G W m σ H Q :=
  ⟨φ, ρ, st, so, h.imp fun d st1 φ1 H1 x s r => q d st1 φ1 H1 x ⟨s, so.e.mono x⟩ r⟩
theorem tML_of {m : Env' → M (List D)} {Q : List V → Hp → Prop} {R : List D → Store → List Addr → Hp → Prop} (so : SOk X.K G φ H σ ρ st) (h : Post X.K G W σ φ H (m ρ st) R)
    (q : ∀ d st1 φ1 H1 v, Ext φ H φ1 H1 → SOk X.K G φ1 H1 σ ρ st1 → RpL X.K G φ1 H1 d v → R d st1 φ1 H1 → Q v H1) : tML X.K G W m σ H Q :=
  ⟨φ, ρ, st, so, h.imp fun d st1 φ1 H1 x s r v rv => q d st1 φ1 H1 v x ⟨s, so.e.mono x⟩ rv r⟩
/-- nothing done: a value at once -/
theorem Post.now {α : Type} {a : α} {Q : α → Store → List Addr → Hp → Prop} (s : StOk X.K G φ H st) (h : Post X.K G W σ φ H (ret a st) Q) : Q a st φ H := h φ H (Ext.refl _ _) s
/-- a new object made -/
theorem Post.made {α : Type} {a : α} {p : Addr} {o : HO} {Q : α → Store → List Addr → Hp → Prop} (s : StOk X.K G φ H st) (h : Post X.K G W σ φ H (ret a st) Q) (n : H p = none) : Q a st φ (upd H p o) := h φ _ (Ext.new n) (s.new n)
/-! ### names and constants -/
def vr (i : Nat) (ρ : Env') : M D := match ρ[i]? with
  | some (some d) => ret d
  | _ => fail
theorem me_vr {e : Expr} {i : Nat} (h : PE X e (tVar i)) : ME X G W e (vr i) := by
  refine peImp h fun σ H Q ⟨φ, ρ, st, so, p⟩ => ?_
  unfold vr at p
  cases e1 : ρ[i]? with
  | none => rw [e1] at p; exact p.elim
  | some o =>
    cases o with
    | none => rw [e1] at p; exact p.elim
    | some d =>
      rw [e1] at p
      obtain ⟨v, h1, h2⟩ := so.e.get i d e1
      exact ⟨v, h1, Post.now (G := G) (W := W) (σ := σ) so.s p v h2⟩
def cst (d : D) (_ : Env') : M D := ret d
theorem me_c {e : Expr} {d : D} {v : V} (h : PE X e (tC v)) (r : ∀ φ H, Rp X.K G φ H d v) : ME X G W e (cst d) := by
  refine peImp h fun σ H Q ⟨φ, ρ, st, so, p⟩ => ?_
  exact Post.now (G := G) (W := W) (σ := σ) so.s p v (r φ H)
theorem me_int {i : Int} {j : Nat} {pos : Pos} : ME X G W (.Constant (.int i) j pos) (cst (.int i)) := me_c pe_int fun _ _ => .int
theorem me_bl {b : Bool} {j : Nat} {pos : Pos} : ME X G W (.Constant (.bool b) j pos) (cst (.bl b)) := me_c pe_bl fun _ _ => .bl
theorem me_non {j : Nat} {pos : Pos} : ME X G W (.Constant .none j pos) (cst .non) := me_c pe_non fun _ _ => .non
theorem me_str {x : Str} {s : List Nat} {j : Nat} {pos : Pos} (h : x = ⟨s.toArray⟩) (hs : (s.all fun c => decide (c < 0x110000)) = true) : ME X G W (.Constant (.str x) j pos) (cst (.str s)) := by
  subst h
  exact me_c pe_str fun _ _ => .str hs
/-! ### operators -/
def OpD (X : Cx) (G : Gx) (r : R2) (op : D → D → M D) : Prop := ∀ φ H st dx dy x y (W : WX) (σ : St) (Q : VK), StOk X.K G φ H st → Rp X.K G φ H dx x → Rp X.K G φ H dy y →
  Post X.K G W σ φ H (op dx dy st) (fun d _ φ' H' => ∀ v, Rp X.K G φ' H' d v → Q v H') → r x y H Q
def m2 (op : D → D → M D) (ma mb : Env' → M D) (ρ : Env') : M D := bnd (ma ρ) fun x => bnd (mb ρ) fun y => op x y
theorem tOp_of {r : R2} {op : D → D → M D} {ma mb : Env' → M D} (ho : OpD X G r op) (σ : St) (H : Hp) (Q : VK) (h : tM X.K G W (m2 op ma mb) σ H Q) : tOp r (tM X.K G W ma) (tM X.K G W mb) σ H Q := by
  obtain ⟨φ, ρ, st, so, p⟩ := h
  refine tM_of so (Post.bind p) fun d1 st1 φ1 H1 v1 x1 so1 r1 p1 => ?_
  refine tM_of so1 (Post.bind p1) fun d2 st2 φ2 H2 v2 x2 so2 r2 p2 => ?_
  exact ho φ2 H2 st2 d1 d2 v1 v2 W σ Q so2.s (r1.mono x2) r2 p2
theorem me_op {op : Operator} {r : R2} {dop : D → D → M D} {a b : Expr} {ma mb : Env' → M D} {pos : Pos} (ho : OpR X (binaryOp op) r) (hd : OpD X G r dop) (ha : ME X G W a ma) (hb : ME X G W b mb) :
    ME X G W (.BinOp a op b pos) (m2 dop ma mb) := peImp (pe_op ho ha hb) fun σ H Q h => tOp_of hd σ H Q h
theorem me_cmp {op : CmpOp} {r : R2} {dop : D → D → M D} {a b : Expr} {ma mb : Env' → M D} {pos : Pos} (ho : OpR X (compareOp op) r) (hd : OpD X G r dop) (ha : ME X G W a ma) (hb : ME X G W b mb) (hm : behindInMarks op b = false) :
    ME X G W (.Compare a [op] [b] pos) (m2 dop ma mb) := peImp (pe_cmpR ho ha hb hm) fun σ H Q h => tOp_of hd σ H Q h
/-- a value that is True or False -/
def asB : D → M Bool
  | .bl b => ret b
  | _ => fail
theorem asB_of {d : D} {v : V} {Q : Bool → Store → List Addr → Hp → Prop} (s : StOk X.K G φ H st) (r : Rp X.K G φ H d v) (p : Post X.K G W σ φ H (asB d st) Q) : ∃ b, v = .bl b ∧ Q b st φ H := by
  cases r with
  | bl => exact ⟨_, rfl, Post.now (G := G) (W := W) (σ := σ) s p⟩
  | _ => exact p.elim
def mB (m : Env' → M D) (ρ : Env') : M Bool := bnd (m ρ) asB
theorem mt_val {e : Expr} {m : Env' → M D} (h : ME X G W e m) (he : ∀ whole, isTrue e X.env whole = (do let v ← whole; standAt e.pos; holding [v] (truthy v)) := by intro _; rfl) : MT X G W e (mB m) := by
  refine ptImp (pt_val h he) fun σ H Q ⟨φ, ρ, st, so, p⟩ => ?_
  refine tM_of so (Post.bind p) fun d1 st1 φ1 H1 v1 x1 so1 r1 p1 => ?_
  exact asB_of so1.s r1 p1
theorem mt_cmp {op : CmpOp} {r : R2} {dop : D → D → M D} {a b : Expr} {ma mb : Env' → M D} {pos : Pos} (ho : OpR X (compareOp op) r) (hd : OpD X G r dop) (ha : ME X G W a ma) (hb : ME X G W b mb) (hm : behindInMarks op b = false) :
    MT X G W (.Compare a [op] [b] pos) (mB (m2 dop ma mb)) := by
  refine ptImp (pt_cmpR ho ha hb hm) fun σ H Q ⟨φ, ρ, st, so, p⟩ => ?_
  refine tOp_of hd σ H _ ⟨φ, ρ, st, so, ?_⟩
  exact (Post.bind p).imp fun d st1 φ1 H1 x1 s1 p1 v1 r1 => asB_of s1 r1 p1
/-! ### and, or, not, if-else -/
def mAnd (ma mb : Env' → M Bool) (ρ : Env') : M Bool := bnd (ma ρ) fun c => match c with
  | true => mb ρ
  | false => ret false
def mOr (ma mb : Env' → M Bool) (ρ : Env') : M Bool := bnd (ma ρ) fun c => match c with
  | true => ret true
  | false => mb ρ
def mNot (ma : Env' → M Bool) (ρ : Env') : M Bool := bnd (ma ρ) fun c => ret (!c)
def mIf {α : Type} (mc : Env' → M Bool) (ma mb : Env' → M α) (ρ : Env') : M α := bnd (mc ρ) fun c => match c with
  | true => ma ρ
  | false => mb ρ
def mV (m : Env' → M Bool) (ρ : Env') : M D := bnd (m ρ) fun b => ret (.bl b)
abbrev MW (X : Cx) (G : Gx) (W : WX) (e : Expr) (m : Env' → M Bool) : Prop := PW X e (tMB X.K G W m)
section
variable {a b e : Expr} {rest : List Expr} {ma mb : Env' → M Bool} {pos : Pos}
theorem mt_not (ha : MT X G W a ma) : MT X G W (.UnaryOp .Not a pos) (mNot ma) := by
  refine ptImp (pt_not ha) fun σ H Q ⟨φ, ρ, st, so, p⟩ => ?_
  exact tMB_of so (Post.bind p) fun b1 st1 φ1 H1 x1 so1 p1 => Post.now (G := G) (W := W) (σ := σ) so1.s p1
theorem mw_and1 (ha : MT X G W a ma) : MW X G W (.BoolOp .And [a] pos) ma := pw_and1 ha
theorem mw_or1 (ha : MT X G W a ma) : MW X G W (.BoolOp .Or [a] pos) ma := pw_or1 ha
theorem mw_and (ha : MT X G W a ma) (hb : MW X G W (.BoolOp .And (b :: rest) pos) mb) : MW X G W (.BoolOp .And (a :: b :: rest) pos) (mAnd ma mb) := by
  refine pwImp (pw_and ha hb) fun σ H Q ⟨φ, ρ, st, so, p⟩ => ?_
  refine tMB_of so (Post.bind p) fun b1 st1 φ1 H1 x1 so1 p1 => ?_
  cases b1 with
  | true => exact iteT ⟨φ1, ρ, st1, so1, p1⟩
  | false => exact iteF (Post.now (G := G) (W := W) (σ := σ) so1.s p1)
theorem mw_or (ha : MT X G W a ma) (hb : MW X G W (.BoolOp .Or (b :: rest) pos) mb) : MW X G W (.BoolOp .Or (a :: b :: rest) pos) (mOr ma mb) := by
  refine pwImp (pw_or ha hb) fun σ H Q ⟨φ, ρ, st, so, p⟩ => ?_
  refine tMB_of so (Post.bind p) fun b1 st1 φ1 H1 x1 so1 p1 => ?_
  cases b1 with
  | true => exact iteT (Post.now (G := G) (W := W) (σ := σ) so1.s p1)
  | false => exact iteF ⟨φ1, ρ, st1, so1, p1⟩
theorem mt_w (h : MW X G W e ma) : MT X G W e ma := h.pt
theorem me_ifExp {c : Expr} {mc : Env' → M Bool} {na nb : Env' → M D} (hc : MT X G W c mc) (ha : ME X G W a na) (hb : ME X G W b nb) : ME X G W (.IfExp c a b pos) (mIf mc na nb) := by
  refine peImp (pe_ifExp hc ha hb) fun σ H Q ⟨φ, ρ, st, so, p⟩ => ?_
  refine tMB_of so (Post.bind p) fun b1 st1 φ1 H1 x1 so1 p1 => ?_
  cases b1 with
  | true => exact iteT ⟨φ1, ρ, st1, so1, p1⟩
  | false => exact iteF ⟨φ1, ρ, st1, so1, p1⟩
/-- as values: all parts True or False -/
theorem me_one {op : BoolOp} {m : Env' → M D} (h : ME X G W a m) : ME X G W (.BoolOp op [a] pos) m := pe_one h
def vAnd (na nb : Env' → M D) (ρ : Env') : M D := bnd (na ρ) fun x => bnd (asB x) fun c => match c with
  | true => nb ρ
  | false => ret (.bl false)
def vOr (na nb : Env' → M D) (ρ : Env') : M D := bnd (na ρ) fun x => bnd (asB x) fun c => match c with
  | true => ret (.bl true)
  | false => nb ρ
def vNot (na : Env' → M D) (ρ : Env') : M D := bnd (na ρ) fun x => bnd (asB x) fun c => ret (.bl (!c))
theorem me_and {na nb : Env' → M D} (ha : ME X G W a na) (hb : ME X G W (.BoolOp .And (b :: rest) pos) nb) : ME X G W (.BoolOp .And (a :: b :: rest) pos) (vAnd na nb) := by
  refine peImp (pe_and ha hb) fun σ H Q ⟨φ, ρ, st, so, p⟩ => ?_
  refine tM_of so (Post.bind p) fun d1 st1 φ1 H1 v1 x1 so1 r1 p1 => ?_
  obtain ⟨c, rfl, p2⟩ := asB_of so1.s r1 (Post.bind p1)
  refine ⟨c, rfl, ?_⟩
  cases c with
  | true => exact iteT ⟨φ1, ρ, st1, so1, p2⟩
  | false => exact iteF (Post.now (G := G) (W := W) (σ := σ) so1.s p2 _ .bl)
theorem me_or {na nb : Env' → M D} (ha : ME X G W a na) (hb : ME X G W (.BoolOp .Or (b :: rest) pos) nb) : ME X G W (.BoolOp .Or (a :: b :: rest) pos) (vOr na nb) := by
  refine peImp (pe_or ha hb) fun σ H Q ⟨φ, ρ, st, so, p⟩ => ?_
  refine tM_of so (Post.bind p) fun d1 st1 φ1 H1 v1 x1 so1 r1 p1 => ?_
  obtain ⟨c, rfl, p2⟩ := asB_of so1.s r1 (Post.bind p1)
  refine ⟨c, rfl, ?_⟩
  cases c with
  | true => exact iteT (Post.now (G := G) (W := W) (σ := σ) so1.s p2 _ .bl)
  | false => exact iteF ⟨φ1, ρ, st1, so1, p2⟩
theorem me_not {na : Env' → M D} (ha : ME X G W a na) : ME X G W (.UnaryOp .Not a pos) (vNot na) := by
  refine peImp (pe_not ha) fun σ H Q ⟨φ, ρ, st, so, p⟩ => ?_
  refine tM_of so (Post.bind p) fun d1 st1 φ1 H1 v1 x1 so1 r1 p1 => ?_
  obtain ⟨c, rfl, p2⟩ := asB_of so1.s r1 (Post.bind p1)
  exact ⟨c, rfl, Post.now (G := G) (W := W) (σ := σ) so1.s p2 _ .bl⟩
end
/-! ### lists of expressions, displays -/
def mNil (_ : Env') : M (List D) := ret []
def mCons (m : Env' → M D) (ms : Env' → M (List D)) (ρ : Env') : M (List D) := bnd (m ρ) fun x => bnd (ms ρ) fun xs => ret (x :: xs)
theorem ma_nil : MA X G W [] mNil := paImp pa_nil fun σ H Q ⟨φ, ρ, st, so, p⟩ => Post.now (G := G) (W := W) (σ := σ) so.s p _ .nil
theorem ma_cons {e : Expr} {es : List Expr} {m : Env' → M D} {ms : Env' → M (List D)} (ha : ME X G W e m) (hr : MA X G W es ms) (hs : starEach (e :: es) X.env = (false, eval e X.env) :: starEach es X.env := by rfl) : MA X G W (e :: es) (mCons m ms) := by
  refine paImp (pa_cons ha hr hs) fun σ H Q ⟨φ, ρ, st, so, p⟩ => ?_
  refine tM_of so (Post.bind p) fun d1 st1 φ1 H1 v1 x1 so1 r1 p1 => ?_
  refine tML_of so1 (Post.bind p1) fun d2 st2 φ2 H2 v2 x2 so2 r2 p2 => ?_
  exact Post.now (G := G) (W := W) (σ := σ) so2.s p2 _ (.cons (r1.mono x2) r2)
def LIM : Nat := 1000000
theorem lim_line {n : Nat} (h : decide (n ≤ LIM) = true) : n ≤ sizeLine := Nat.le_trans (of_decide_eq_true h) (by rw [sizeLine_eq]; decide)
theorem lim_lt {n : Nat} (h : decide (n ≤ LIM) = true) : n < sizeLine := Nat.lt_of_le_of_lt (of_decide_eq_true h) (by rw [sizeLine_eq]; decide)
def mTup (ms : Env' → M (List D)) (ρ : Env') : M D := bnd (ms ρ) fun xs => chk (decide (xs.length ≤ LIM)) (ret (.tup xs))
def mLst (ms : Env' → M (List D)) (ρ : Env') : M D := bnd (ms ρ) fun xs => chk (decide (xs.length ≤ LIM)) (ret (.lst xs))
/-- a list that will change -/
def newCell (c : Cell) : M D := fun st => .ok (.cel st.length) (st ++ [c])
def mCel (ms : Env' → M (List D)) (ρ : Env') : M D := bnd (ms ρ) fun xs => chk (decide (xs.length ≤ LIM)) (newCell (.lst xs))
theorem rp_tup {p : Addr} {xs : List D} {vs : List V} (n : H p = none) (r : RpL X.K G φ H xs vs) : Rp X.K G φ (upd H p (.tup vs)) (.tup xs) (.ref p) := .tup (SqT.of upd_same) (r.mono (Ext.new n))
theorem notin_phi {p : Addr} (s : StOk X.K G φ H st) (n : H p = none) : p ∉ φ := fun hm => by
  obtain ⟨i, hi, e⟩ := List.getElem_of_mem hm
  have h2 : i < st.length := by rw [← s.len]; exact hi
  obtain ⟨o, e1, _⟩ := s.cell i st[i] p (List.getElem?_eq_getElem h2) (by rw [List.getElem?_eq_getElem hi, e])
  rw [n] at e1
  cases e1
theorem rp_lst {p : Addr} {xs : List D} {vs : List V} (s : StOk X.K G φ H st) (n : H p = none) (r : RpL X.K G φ H xs vs) : Rp X.K G φ (upd H p (.lst vs)) (.lst xs) (.ref p) := .lst upd_same (notin_phi s n) (s.nofx n) (r.mono (Ext.new n))
theorem ext_cell {p : Addr} {o : HO} (n : H p = none) : Ext φ H (φ ++ [p]) (upd H p o) := by
  have k : ∀ b u, H b = some u → upd H p o b = some u := fun b u e => by rw [upd_ne (ne_of_none e n)]; exact e
  exact ⟨⟨[p], rfl, fun a ha => by rw [List.mem_singleton.mp ha]; exact n⟩, fun a u h _ _ => k a u h, fun a xs h => k a _ h, fun a u z h => k a _ h, fun a h => by
    cases q : H a with
    | none => exact absurd q h
    | some u => rw [k a u q]; simp⟩
/-- a cell is laid -/
theorem StOk.cellNew {p : Addr} {c : Cell} {o : HO} (s : StOk X.K G φ H st) (n : H p = none) (ho : CellOk X.K G φ H c o) : StOk X.K G (φ ++ [p]) (upd H p o) (st ++ [c]) := by
  have x : Ext φ H (φ ++ [p]) (upd H p o) := ext_cell n
  have hp := notin_phi s n
  have k : ∀ b u, H b = some u → upd H p o b = some u := fun b u e => by rw [upd_ne (ne_of_none e n)]; exact e
  refine ⟨by rw [List.length_append, List.length_append, s.len]; rfl, ?_, fun i c' a h1 h2 => ?_, s.tabs.ext k, s.anc.trans x, fun a h => x.there a (s.fx a h), fun a h m => (List.mem_append.mp m).elim (s.fd a h) fun z => s.nofx n (by rw [← List.mem_singleton.mp z]; exact h)⟩
  · exact List.nodup_append.mpr ⟨s.nd, by simp, fun a ha b hb e => by
      rw [List.mem_singleton.mp hb] at e
      exact hp (e ▸ ha)⟩
  · by_cases hi : i < st.length
    · rw [List.getElem?_append_left hi] at h1
      rw [List.getElem?_append_left (by rw [s.len]; exact hi)] at h2
      obtain ⟨u, e1, e2⟩ := s.cell i c' a h1 h2
      exact ⟨u, k _ _ e1, e2.mono x⟩
    · have hi2 : i = st.length := by
        have := (List.getElem?_eq_some_iff.mp h1).1
        rw [List.length_append] at this
        have h3 : [c].length = 1 := rfl
        omega
      rw [hi2, List.getElem?_append_right (Nat.le_refl _)] at h1
      rw [hi2, ← s.len, List.getElem?_append_right (Nat.le_refl _)] at h2
      simp at h1 h2
      subst h1 h2
      exact ⟨o, upd_same, ho.mono x⟩
theorem me_tup {es : List Expr} {ms : Env' → M (List D)} {k : Nat} {pos : Pos} (h : MA X G W es ms) : ME X G W (.Tuple es k pos) (mTup ms) := by
  refine peImp (pe_tup h) fun σ H Q ⟨φ, ρ, st, so, p⟩ => ?_
  refine tML_of so (Post.bind p) fun ds st1 φ1 H1 vs x1 so1 r1 p1 => ?_
  obtain ⟨c, p2⟩ := Post.chk p1
  refine ⟨by rw [← r1.length]; exact lim_line c, fun q hq => ?_⟩
  exact Post.made (G := G) (W := W) (σ := σ) so1.s p2 hq _ (rp_tup hq r1)
theorem me_lst {es : List Expr} {ms : Env' → M (List D)} {pos : Pos} (h : MA X G W es ms) : ME X G W (.List es pos) (mLst ms) := by
  refine peImp (pe_lst h) fun σ H Q ⟨φ, ρ, st, so, p⟩ => ?_
  refine tML_of so (Post.bind p) fun ds st1 φ1 H1 vs x1 so1 r1 p1 => ?_
  obtain ⟨c, p2⟩ := Post.chk p1
  refine ⟨by rw [← r1.length]; exact lim_line c, fun q hq => ?_⟩
  exact Post.made (G := G) (W := W) (σ := σ) so1.s p2 hq _ (rp_lst so1.s hq r1)
theorem me_cel {es : List Expr} {ms : Env' → M (List D)} {pos : Pos} (h : MA X G W es ms) : ME X G W (.List es pos) (mCel ms) := by
  refine peImp (pe_lst h) fun σ H Q ⟨φ, ρ, st, so, p⟩ => ?_
  refine tML_of so (Post.bind p) fun ds st1 φ1 H1 vs x1 so1 r1 p1 => ?_
  obtain ⟨c, p2⟩ := Post.chk p1
  refine ⟨by rw [← r1.length]; exact lim_line c, fun q hq => ?_⟩
  refine p2 (φ1 ++ [q]) _ (ext_cell hq) (so1.s.cellNew hq (.lst r1)) _ (.cel ?_)
  rw [← so1.s.len, List.getElem?_append_right (Nat.le_refl _)]
  simp
end
end DL
namespace DL
open PySem PySem.Spec PyProof.Rows L2
/-! ### statements -/
def sB {α : Type} (ρ : Env') (m : M α) (f : α → Store → RS) : Store → RS := fun st => match m st with
  | .ok a st' => f a st'
  | .exc c st' => .exc c ρ st'
  | .bad => .bad
def sNx : MS := fun ρ st => .nx ρ st
def sSeq (a b : MS) : MS := fun ρ st => match a ρ st with
  | .nx ρ' st' => b ρ' st'
  | r => r
def sExpr (m : Env' → M D) : MS := fun ρ => sB ρ (m ρ) fun _ st => .nx ρ st
def sRet (m : Env' → M D) : MS := fun ρ => sB ρ (m ρ) fun d st => .rt d st
def sRetN : MS := fun _ st => .rt .non st
def sIf (c : Env' → M Bool) (a b : MS) : MS := fun ρ => sB ρ (c ρ) fun k => match k with
  | true => a ρ
  | false => b ρ
abbrev GM := D → Env' → M Env'
def gNm (i : Nat) : GM := fun d ρ => ret (ρ.set i (some d))
def gL : List GM → List D → Env' → M Env'
  | [], [], ρ => ret ρ
  | g :: gs, d :: ds, ρ => bnd (g d ρ) fun ρ' => gL gs ds ρ'
  | _, _, _ => fail
def gTp (gs : List GM) : GM := fun d => match d with
  | .tup xs => gL gs xs
  | _ => fun _ => fail
def sG (g : GM) (d : D) : MS := fun ρ st => match g d ρ st with
  | .ok ρ' st' => .nx ρ' st'
  | _ => .bad
def sAsg (m : Env' → M D) (g : GM) : MS := fun ρ => sB ρ (m ρ) fun d => sG g d ρ
def sBrk : MS := fun ρ st => .bk ρ st
def sCnt : MS := fun ρ st => .ct ρ st
section
variable {K : PySem.W.Frag} {G : Gx} {W : WX} {σ : St} {φ φ' : List Addr} {H H' : Hp} {ρ : Env'} {st : Store} {α β : Type} {De : Ends}
theorem PostS.ext {r : RS} (x : Ext φ H φ' H') (h : PostS K G W φ H r De) : PostS K G W φ' H' r De := by
  cases r with
  | nx ρ st => exact fun φ2 H2 σ' x2 s => h φ2 H2 σ' (x.trans x2) s
  | rt d st => exact fun φ2 H2 v x2 s r => h φ2 H2 v (x.trans x2) s r
  | bk ρ st => exact fun φ2 H2 σ' x2 s => h φ2 H2 σ' (x.trans x2) s
  | ct ρ st => exact fun φ2 H2 σ' x2 s => h φ2 H2 σ' (x.trans x2) s
  | exc c ρ st => exact fun φ2 H2 σ' x2 s => h φ2 H2 σ' (x.trans x2) s
  | bad => exact h
theorem PostS.sb {m : M α} {f : α → Store → RS} (e : EnvOk K G φ H σ ρ) (h : PostS K G W φ H (sB ρ m f st) De) :
    Post K G W σ φ H (m st) fun a st1 φ1 H1 => PostS K G W φ1 H1 (f a st1) De := by
  unfold sB at h
  cases q : m st with
  | ok a st' =>
    rw [q] at h
    exact fun φ2 H2 x2 s => PostS.ext x2 h
  | exc c st' =>
    rw [q] at h
    exact fun φ2 H2 x2 s => h φ2 H2 σ x2 ⟨s, e.mono x2⟩
  | bad =>
    rw [q] at h
    exact h
theorem PostS.seq {a b : MS} (h : PostS K G W φ H (sSeq a b ρ st) De) : PostS K G W φ H (a ρ st) { De with nx := tMS K G W b De } := by
  unfold sSeq at h
  cases q : a ρ st with
  | nx ρ' st' =>
    rw [q] at h
    exact fun φ2 H2 σ' x2 s => ⟨φ2, ρ', st', s, PostS.ext x2 h⟩
  | rt d st => rw [q] at h; exact h
  | bk ρ st => rw [q] at h; exact h
  | ct ρ st => rw [q] at h; exact h
  | exc c ρ st => rw [q] at h; exact h
  | bad => rw [q] at h; exact h
theorem PostS.nx (so : SOk K G φ H σ ρ st) (h : PostS K G W φ H (.nx ρ st) De) : De.nx σ H := h φ H σ (Ext.refl _ _) so
end
section
variable {X : Cx} {G : Gx} {W : WX}
theorem tMS_nil (D : Ends) (σ : St) (H : Hp) (h : tMS X.K G W sNx D σ H) : D.nx σ H := by
  obtain ⟨φ, ρ, st, so, p⟩ := h
  exact PostS.nx (W := W) so p
theorem ss_nil : SS X G W [] sNx := pssImp pss_nil fun D σ H h => tMS_nil D σ H h
theorem ss_cons {s : Stmt} {r : List Stmt} {a b : MS} (h1 : ST X G W s a) (h2 : SS X G W r b) : SS X G W (s :: r) (sSeq a b) :=
  pssImp (pss_cons h1 h2) fun D σ H ⟨φ, ρ, st, so, p⟩ => ⟨φ, ρ, st, so, PostS.seq p⟩
theorem ss_one {s : Stmt} {a : MS} (h1 : ST X G W s a) : SS X G W [s] a := pss_one h1
theorem st_pass {pos : Pos} : ST X G W (.Pass pos) sNx := psImp ps_pass fun D σ H h => tMS_nil D σ H h
theorem st_break {pos : Pos} : ST X G W (.Break pos) sBrk := psImp ps_break fun D σ H ⟨φ, ρ, st, so, p⟩ => p φ H σ (Ext.refl _ _) so
theorem st_continue {pos : Pos} : ST X G W (.Continue pos) sCnt := psImp ps_continue fun D σ H ⟨φ, ρ, st, so, p⟩ => p φ H σ (Ext.refl _ _) so
theorem st_expr {e : Expr} {m : Env' → M D} {pos : Pos} (he : ME X G W e m) (hs : swapsWith e none pos.line X.env = pure false := by rfl) : ST X G W (.Expr e pos) (sExpr m) := by
  refine psImp (ps_expr he hs) fun D σ H ⟨φ, ρ, st, so, p⟩ => ?_
  exact tM_of so (PostS.sb so.e p) fun d1 st1 φ1 H1 v1 x1 so1 r1 p1 => PostS.nx (W := W) so1 p1
theorem st_ret {e : Expr} {m : Env' → M D} {pos : Pos} (he : ME X G W e m) : ST X G W (.Return (some e) pos) (sRet m) := by
  refine psImp (ps_ret he) fun D σ H ⟨φ, ρ, st, so, p⟩ => ?_
  exact tM_of so (PostS.sb so.e p) fun d1 st1 φ1 H1 v1 x1 so1 r1 p1 => p1 φ1 H1 v1 (Ext.refl _ _) so1.s r1
theorem st_retN {pos : Pos} : ST X G W (.Return none pos) sRetN := psImp ps_retN fun D σ H ⟨φ, ρ, st, so, p⟩ => p φ H .non (Ext.refl _ _) so.s .non
theorem st_if {c : Expr} {a b : List Stmt} {mc : Env' → M Bool} {ma mb : MS} {pos : Pos} (hc : MT X G W c mc) (ha : SS X G W a ma) (hb : SS X G W b mb) : ST X G W (.If c a b pos) (sIf mc ma mb) := by
  refine psImp (ps_if hc ha hb) fun D σ H ⟨φ, ρ, st, so, p⟩ => ?_
  refine tMB_of so (PostS.sb so.e p) fun b1 st1 φ1 H1 x1 so1 p1 => ?_
  cases b1 with
  | true => exact iteT ⟨φ1, ρ, st1, so1, p1⟩
  | false => exact iteF ⟨φ1, ρ, st1, so1, p1⟩
/-! ### targets -/
def PostG (K : PySem.W.Frag) (G : Gx) (φ : List Addr) (H : Hp) (r : R Env') (Q : St → Hp → Prop) : Prop := match r with
  | .ok ρ st => ∀ φ' H' σ', Ext φ H φ' H' → SOk K G φ' H' σ' ρ st → Q σ' H'
  | _ => False
theorem PostG.ext {K : PySem.W.Frag} {φ φ' : List Addr} {H H' : Hp} {r : R Env'} {Q : St → Hp → Prop} (x : Ext φ H φ' H') (h : PostG K G φ H r Q) : PostG K G φ' H' r Q := by
  cases r with
  | ok ρ st => exact fun φ2 H2 σ' x2 s => h φ2 H2 σ' (x.trans x2) s
  | exc c st => exact h
  | bad => exact h
def tG (K : PySem.W.Frag) (G : Gx) (g : GM) : TG := fun v σ H Q => ∃ φ ρ st d, SOk K G φ H σ ρ st ∧ Rp K G φ H d v ∧ PostG K G φ H (g d ρ st) Q
def tGs (K : PySem.W.Frag) (G : Gx) (g : List GM) : TGs := fun vs σ H Q => ∃ φ ρ st ds, SOk K G φ H σ ρ st ∧ RpL K G φ H ds vs ∧ PostG K G φ H (gL g ds ρ st) Q
abbrev GT (X : Cx) (G : Gx) (e : Expr) (g : GM) : Prop := PG X e (tG X.K G g)
abbrev GTs (X : Cx) (G : Gx) (es : List Expr) (g : List GM) : Prop := PGs X es (tGs X.K G g)
theorem pgImp {e : Expr} {t t' : TG} (h : PG X e t) (i : ∀ v σ H Q, t' v σ H Q → t v σ H Q) : PG X e t' := ⟨fun pins s σ H v u Q I r hw => h.run pins s σ H v u Q I r (i v σ H Q hw)⟩
theorem pgsImp {e : List Expr} {t t' : TGs} (h : PGs X e t) (i : ∀ v σ H Q, t' v σ H Q → t v σ H Q) : PGs X e t' := ⟨fun pins s σ H v u Q I r hw => h.run pins s σ H v u Q I r (i v σ H Q hw)⟩
theorem gt_name {e : Expr} {i : Nat} (h : PG X e (gName i)) : GT X G e (gNm i) := by
  refine pgImp h fun v σ H Q ⟨φ, ρ, st, d, so, r, p⟩ => ?_
  exact p φ H _ (Ext.refl _ _) ⟨so.s, so.e.set r⟩
theorem gts_nil : GTs X G [] [] := by
  refine pgsImp pgs_nil fun v σ H Q ⟨φ, ρ, st, ds, so, r, p⟩ => ?_
  cases r with
  | nil => exact ⟨rfl, p φ H σ (Ext.refl _ _) so⟩
  | cons _ _ => exact p.elim
theorem gts_cons {e : Expr} {es : List Expr} {g : GM} {gs : List GM} (h1 : GT X G e g) (h2 : GTs X G es gs)
    (hs : (assignEach (e :: es) X.env).map (·.2) = assign e X.env :: (assignEach es X.env).map (·.2) := by rfl) : GTs X G (e :: es) (g :: gs) := by
  refine pgsImp (pgs_cons h1 h2 hs) fun vs σ H Q ⟨φ, ρ, st, ds, so, rl, p⟩ => ?_
  cases rl with
  | nil => exact p.elim
  | @cons d v ds vs r1 rr =>
    refine ⟨v, vs, rfl, φ, ρ, st, d, so, r1, ?_⟩
    have p1 : PostG X.K G φ H (bnd (g d ρ) (fun ρ' => gL gs ds ρ') st) Q := p
    unfold bnd at p1
    cases q : g d ρ st with
    | ok ρ' st' =>
      rw [q] at p1
      exact fun φ2 H2 σ' x2 s2 => ⟨φ2, ρ', st', ds, s2, rr.mono x2, PostG.ext x2 p1⟩
    | exc c st => rw [q] at p1; exact p1
    | bad => rw [q] at p1; exact p1
theorem gL_len {K : PySem.W.Frag} {Q : St → Hp → Prop} {φ : List Addr} {H : Hp} : ∀ (gs : List GM) (ds : List D) (ρ : Env') (st : Store), PostG K G φ H (gL gs ds ρ st) Q → gs.length = ds.length
  | [], [], _, _, _ => rfl
  | [], _ :: _, _, _, h => h.elim
  | _ :: _, [], _, _, h => h.elim
  | g :: gs, d :: ds, ρ, st, h => by
    have p1 : PostG K G φ H (bnd (g d ρ) (fun ρ' => gL gs ds ρ') st) Q := h
    unfold bnd at p1
    cases q : g d ρ st with
    | ok ρ' st' =>
      rw [q] at p1
      rw [List.length_cons, List.length_cons, gL_len gs ds ρ' st' p1]
    | exc c st => rw [q] at p1; exact p1.elim
    | bad => rw [q] at p1; exact p1.elim
theorem gt_tup {es : List Expr} {k : Nat} {gs : List GM} {pos : Pos} {n : Nat} (hc : X.calm = true) (h : GTs X G es gs) (hl : gs.length = n := by rfl)
    (hn : (assignEach es X.env).length = n := by rfl) (hst : (assignEach es X.env).findIdx? (·.1) = none := by rfl) : GT X G (.Tuple es k pos) (gTp gs) := by
  refine pgImp (pg_tup hc h hn hst) fun v σ H Q ⟨φ, ρ, st, d, so, r, p⟩ => ?_
  cases r with
  | @tup xs a vs hs rl => exact ⟨a, vs, rfl, hs, by rw [← rl.length, ← gL_len gs xs ρ st p, hl], φ, ρ, st, xs, so, rl, p⟩
  | _ => exact p.elim
theorem PostS.g {K : PySem.W.Frag} {φ : List Addr} {H : Hp} {g : GM} {d : D} {ρ : Env'} {st : Store} {De : Ends} (h : PostS K G W φ H (sG g d ρ st) De) : PostG K G φ H (g d ρ st) De.nx := by
  unfold sG at h
  cases q : g d ρ st with
  | ok ρ' st' => rw [q] at h; exact h
  | exc c st => rw [q] at h; exact h
  | bad => rw [q] at h; exact h
theorem st_asg {tg e : Expr} {m : Env' → M D} {g : GM} {pos : Pos} (he : ME X G W e m) (hg : GT X G tg g) (hs : swapsWithSole [tg] e pos.line X.env = pure false := by rfl) (hw : swappedStores [tg] e X.env = pure none := by rfl)
    (h1 : (assignEach [tg] X.env).map (·.2) = [assign tg X.env] := by rfl) : ST X G W (.Assign [tg] e pos) (sAsg m g) := by
  refine psImp (ps_asg he hg hs hw h1) fun De σ H ⟨φ, ρ, st, so, p⟩ => ?_
  refine tM_of so (PostS.sb so.e p) fun d1 st1 φ1 H1 v1 x1 so1 r1 p1 => ?_
  exact ⟨φ1, ρ, st1, d1, so1, r1, PostS.g p1⟩
/-- a, b = e, f (both sides written): no tuple is made -/
def sPar (i j : Nat) (ms : Env' → M (List D)) : MS := fun ρ => sB ρ (ms ρ) fun ds st => match ds with
  | [d, e] => .nx ((ρ.set i (some d)).set j (some e)) st
  | _ => .bad
theorem st_par {i j : Nat} {x y : Str} {a b : Expr} {ms : Env' → M (List D)} {px py pt pos : Pos} {kt k2 : Nat} {pt2 : Pos} (hc : X.calm = true) (hN : X.N.Nodup) (hi : X.N[i]? = some x) (hj : X.N[j]? = some y) (hij : i ≠ j)
    (hx : X.env.scope.names.lookup x = some .local) (hy : X.env.scope.names.lookup y = some .local) (ha : MA X G W [a, b] ms)
    (hw : swappedStores [.Tuple [.Name x px, .Name y py] kt pt] (.Tuple [a, b] k2 pt2) X.env = pure (some [x, y]))
    (hs : swapsWithSole [.Tuple [.Name x px, .Name y py] kt pt] (.Tuple [a, b] k2 pt2) pos.line X.env = pure false := by rfl) :
    ST X G W (.Assign [.Tuple [.Name x px, .Name y py] kt pt] (.Tuple [a, b] k2 pt2) pos) (sPar i j ms) := by
  refine psImp (ps_par hc hN hi hj hij hx hy ha hw hs) fun De σ H ⟨φ, ρ, st, so, p⟩ => ?_
  refine tML_of so (PostS.sb so.e p) fun ds st1 φ1 H1 vs x1 so1 r1 p1 => ?_
  cases r1 with
  | nil => exact p1.elim
  | cons ra rr =>
    cases rr with
    | nil => exact p1.elim
    | cons rb rr =>
      cases rr with
      | nil => exact ⟨_, _, rfl, p1 φ1 H1 _ (Ext.refl _ _) ⟨so1.s, (so1.e.set ra).set rb⟩⟩
      | cons _ _ => exact p1.elim
/-! ### what is walked -/
structure Itm where
  xs : List D
  ck : Store → Bool
structure ItD (K : PySem.W.Frag) (G : Gx) (φ0 : List Addr) (H0 : Hp) (J : It) (it : Itm) : Prop where
  go : ∀ φ H st (i : Nat) d, Ext φ0 H0 φ H → StOk K G φ H st → it.ck st = true → it.xs[i]? = some d → J.go i H ∧ ∀ x H', J.yld i H x H' → (∀ b o, H b = some o → H' b = some o) ∧ Rp K G φ H' d x
  stop : ∀ φ H st, Ext φ0 H0 φ H → StOk K G φ H st → it.ck st = true → J.stop it.xs.length H
theorem ItD.ext {K : PySem.W.Frag} {φ φ' : List Addr} {H H' : Hp} {J : It} {it : Itm} (x : Ext φ H φ' H') (h : ItD K G φ H J it) : ItD K G φ' H' J it :=
  ⟨fun φ2 H2 st i d x2 => h.go φ2 H2 st i d (x.trans x2), fun φ2 H2 st x2 => h.stop φ2 H2 st (x.trans x2)⟩
def tI (K : PySem.W.Frag) (G : Gx) (W : WX) (m : Env' → M Itm) : TI := fun σ H R => ∃ φ ρ st, SOk K G φ H σ ρ st ∧ Post K G W σ φ H (m ρ st) fun it _ φ' H' => ∀ J, (∀ fx, (∀ a ∈ fx, a ∈ G.fx ∨ H' a = none) → ItD K (G.fl fx) φ' H' J it) → R J H'
abbrev MI (X : Cx) (G : Gx) (W : WX) (tg iter : Expr) (m : Env' → M Itm) : Prop := PI X tg iter (tI X.K G W m)
theorem piImp {tg e : Expr} {t t' : TI} (h : PI X tg e t) (i : ∀ σ H Q, t' σ H Q → t σ H Q) : PI X tg e t' := ⟨fun pins s σ H Q I hw => h.run pins s σ H Q I (i σ H Q hw)⟩
/-! ### loops -/
def lpK (r : RS) (f : MS) : RS := match r with
  | .nx ρ st => f ρ st
  | .ct ρ st => f ρ st
  | .bk ρ st => .nx ρ st
  | r => r
def forL (ck : Store → Bool) (g : GM) (b : MS) : List D → MS
  | [] => fun ρ st => (match ck st with
    | true => .nx ρ st
    | false => .bad)
  | x :: xs => fun ρ st => (match ck st with
    | true => (match g x ρ st with
      | .ok ρ1 st1 => lpK (b ρ1 st1) (forL ck g b xs)
      | _ => .bad)
    | false => .bad)
def sFor (mi : Env' → M Itm) (g : GM) (b : MS) : MS := fun ρ => sB ρ (mi ρ) fun it => forL it.ck g b it.xs ρ
theorem PostS.lp {K : PySem.W.Frag} {φ : List Addr} {H : Hp} {r : RS} {f : MS} {De : Ends} {N : St → Hp → Prop} (h : PostS K G W φ H (lpK r f) De) (hN : ∀ φ' H' σ' ρ st, Ext φ H φ' H' → SOk K G φ' H' σ' ρ st → PostS K G W φ' H' (f ρ st) De → N σ' H') :
    PostS K G W φ H r { De with nx := N, ct := N, bk := De.nx } := by
  cases r with
  | nx ρ st => exact fun φ2 H2 σ' x2 s => hN φ2 H2 σ' ρ st x2 s (PostS.ext x2 h)
  | ct ρ st => exact fun φ2 H2 σ' x2 s => hN φ2 H2 σ' ρ st x2 s (PostS.ext x2 h)
  | rt d st => exact h
  | bk ρ st => exact h
  | exc c ρ st => exact h
  | bad => exact h
theorem st_for {tg iter : Expr} {body : List Stmt} {mi : Env' → M Itm} {g : GM} {b : MS} {pos : Pos} (hp : PassesOwn (model X.prog X.w) X.A X.env X.xe) (hc : X.calm = true) (hi : MI X G W tg iter mi) (hg : GT X G tg g) (hb : SS X G W body b)
    (hs : ∀ x, foldedSetIterable iter X.env x = pure x := by intro _; rfl) : ST X G W (.For tg iter body [] pos) (sFor mi g b) := by
  refine psImp (ps_for hp hc hi hg hb hs) fun De σ H ⟨φ, ρ, st, so, p⟩ => ?_
  refine ⟨φ, ρ, st, so, (PostS.sb so.e p).imp fun it st1 φ1 H1 x1 s1 p1 J hJ0 => ?_⟩
  have hJ : ItD X.K G φ1 H1 J it := hJ0 G.fx fun a h => .inl h
  refine ⟨fun i m σ' H' => ∃ φ' ρ' st', m = it.xs.length - i ∧ i ≤ it.xs.length ∧ SOk X.K G φ' H' σ' ρ' st' ∧ Ext φ1 H1 φ' H' ∧ PostS X.K G W φ' H' (forL it.ck g b (it.xs.drop i) ρ' st') De,
    ⟨it.xs.length, φ1, ρ, st1, by simp, Nat.zero_le _, ⟨s1, so.e.mono x1⟩, Ext.refl _ _, p1⟩, ?_⟩
  rintro i m σ' H' ⟨φ', ρ', st', rfl, hi', so', x', p'⟩
  by_cases hlt : i < it.xs.length
  · right
    have ed : it.xs.drop i = it.xs[i] :: it.xs.drop (i + 1) := List.drop_eq_getElem_cons hlt
    rw [ed] at p'
    unfold forL at p'
    cases c : it.ck st' with
    | false => rw [c] at p'; exact p'.elim
    | true =>
      rw [c] at p'
      obtain ⟨hgo, hy⟩ := hJ.go φ' H' st' i it.xs[i] x' so'.s c (List.getElem?_eq_getElem hlt)
      refine ⟨hgo, fun σ2 H2 => ∃ φ2 ρ2 st2, SOk X.K G φ2 H2 σ2 ρ2 st2 ∧ Ext φ1 H1 φ2 H2 ∧ PostS X.K G W φ2 H2 (forL it.ck g b (it.xs.drop (i + 1)) ρ2 st2) De, fun σ2 H2 ⟨φ2, ρ2, st2, s2, x2, p2⟩ => ⟨it.xs.length - (i + 1), by omega, φ2, ρ2, st2, rfl, hlt, s2, x2, p2⟩, fun x H2 hyl => ?_⟩
      obtain ⟨k, r⟩ := hy x H2 hyl
      have xk : Ext φ' H' φ' H2 := Ext.of_same k
      refine ⟨φ', ρ', st', it.xs[i], ⟨so'.s.same k, so'.e.mono xk⟩, r, ?_⟩
      cases q : g it.xs[i] ρ' st' with
      | exc c st => rw [q] at p'; exact p'.elim
      | bad => rw [q] at p'; exact p'.elim
      | ok ρ3 st3 =>
        rw [q] at p'
        intro φ3 H3 σ3 x3 s3
        refine ⟨φ3, ρ3, st3, s3, ?_⟩
        refine PostS.lp (PostS.ext (xk.trans x3) p') fun φ4 H4 σ4 ρ4 st4 x4 s4 p4 => ?_
        exact ⟨φ4, ρ4, st4, s4, ((x'.trans xk).trans x3).trans x4, p4⟩
  · left
    have ei : i = it.xs.length := by omega
    subst ei
    rw [List.drop_length] at p'
    unfold forL at p'
    cases c : it.ck st' with
    | false => rw [c] at p'; exact p'.elim
    | true =>
      rw [c] at p'
      exact ⟨hJ.stop φ' H' st' x' so'.s c, p' φ' H' σ' (Ext.refl _ _) so'⟩
def whL (c : Env' → M Bool) (b : MS) : Nat → MS
  | 0 => fun _ _ => .bad
  | n + 1 => fun ρ => sB ρ (c ρ) fun k st => match k with
    | true => lpK (b ρ st) (whL c b n)
    | false => .nx ρ st
def sWh (fuel : Env' → Store → Nat) (c : Env' → M Bool) (b : MS) : MS := fun ρ st => whL c b (fuel ρ st) ρ st
theorem st_while {c : Expr} {body : List Stmt} {mc : Env' → M Bool} {b : MS} {pos : Pos} (fuel : Env' → Store → Nat) (hp : PassesOwn (model X.prog X.w) X.A X.env X.xe) (hc : MT X G W c mc) (hb : SS X G W body b) : ST X G W (.While c body [] pos) (sWh fuel mc b) := by
  refine psImp (ps_while hp hc hb) fun De σ H ⟨φ, ρ, st, so, p⟩ => ?_
  refine ⟨fun m σ' H' => ∃ φ' ρ' st', SOk X.K G φ' H' σ' ρ' st' ∧ PostS X.K G W φ' H' (whL mc b m ρ' st') De, ⟨_, φ, ρ, st, so, p⟩, ?_⟩
  rintro m σ' H' ⟨φ', ρ', st', so', p'⟩
  cases m with
  | zero => exact p'.elim
  | succ n =>
    refine tMB_of so' (PostS.sb so'.e p') fun k st1 φ1 H1 x1 so1 p1 => ?_
    cases k with
    | true =>
      refine iteT ⟨fun σ2 H2 => ∃ φ2 ρ2 st2, SOk X.K G φ2 H2 σ2 ρ2 st2 ∧ PostS X.K G W φ2 H2 (whL mc b n ρ2 st2) De, fun σ2 H2 q => ⟨n, Nat.lt_succ_self n, q⟩, φ1, ρ', st1, so1, ?_⟩
      exact PostS.lp p1 fun φ4 H4 σ4 ρ4 st4 x4 s4 p4 => ⟨φ4, ρ4, st4, s4, p4⟩
    | false => exact iteF (p1 φ1 H1 σ' (Ext.refl _ _) so1)
end
end DL
namespace DL
open PySem PySem.Spec PyProof.Rows L2
/-! ### values without cells -/
mutual
def D.no : D → Bool
  | .cel _ => false
  | .tup xs => D.noL xs
  | .lst xs => D.noL xs
  | .scr xs => D.noL xs
  | _ => true
def D.noL : List D → Bool
  | [] => true
  | x :: xs => D.no x && D.noL xs
end
section
variable {K : PySem.W.Frag} {G : Gx} {φ ψ : List Addr} {H : Hp}
mutual
theorem Rp.less : ∀ {d : D} {v : V}, D.no d = true → Rp K G (φ ++ ψ) H d v → Rp K G φ H d v
  | .cel _, _, h, _ => by simp [D.no] at h
  | .non, _, _, .non => .non
  | .bl _, _, _, .bl => .bl
  | .int _, _, _, .int => .int
  | .str _, _, _, .str h => .str h
  | .tup xs, _, h, .tup a r => .tup a (RpL.less (by simpa [D.no] using h) r)
  | .lst xs, _, h, .lst a n z r => .lst a (fun m => n (List.mem_append_left _ m)) z (RpL.less (by simpa [D.no] using h) r)
  | .scr xs, _, h, .scr a r => .scr a (RpL.less (by simpa [D.no] using h) r)
  | .fn _, _, _, .fn h => .fn h
  | .hof, _, _, .hof h => .hof h
theorem RpL.less : ∀ {ds : List D} {vs : List V}, D.noL ds = true → RpL K G (φ ++ ψ) H ds vs → RpL K G φ H ds vs
  | [], _, _, .nil => .nil
  | d :: ds, _, h, .cons a r => by
    have h1 : (D.no d && D.noL ds) = true := by simpa [D.noL] using h
    obtain ⟨h2, h3⟩ := Bool.and_eq_true_iff.mp h1
    exact .cons (Rp.less h2 a) (RpL.less h3 r)
end
end
def noF : List (Str × D) → Bool
  | [] => true
  | p :: r => D.no p.2 && noF r
def noK : List (Key × D) → Bool
  | [] => true
  | p :: r => D.no p.2 && noK r
def Cell.no : Cell → Bool
  | .lst xs => D.noL xs
  | .dct kvs => noK kvs
  | .dctL kvs => noK kvs
  | .ins _ fs => noF fs
def eqF : List (Str × D) → List (Str × D) → Bool
  | [], [] => true
  | p :: r, q :: s => decide (p.1 = q.1) && D.beq p.2 q.2 && eqF r s
  | _, _ => false
def eqK : List (Key × D) → List (Key × D) → Bool
  | [], [] => true
  | p :: r, q :: s => decide (p.1 = q.1) && D.beq p.2 q.2 && eqK r s
  | _, _ => false
theorem eqF_eq : ∀ {a b : List (Str × D)}, eqF a b = true → a = b
  | [], [], _ => rfl
  | [], _ :: _, h | _ :: _, [], h => by simp [eqF] at h
  | (p1, p2) :: r, (q1, q2) :: s, h => by
    have h1 : (decide (p1 = q1) && D.beq p2 q2 && eqF r s) = true := by simpa [eqF] using h
    obtain ⟨h2, h3⟩ := Bool.and_eq_true_iff.mp h1
    obtain ⟨h4, h5⟩ := Bool.and_eq_true_iff.mp h2
    rw [eqF_eq h3, D.beq_eq h5, of_decide_eq_true h4]
theorem eqK_eq : ∀ {a b : List (Key × D)}, eqK a b = true → a = b
  | [], [], _ => rfl
  | [], _ :: _, h | _ :: _, [], h => by simp [eqK] at h
  | (p1, p2) :: r, (q1, q2) :: s, h => by
    have h1 : (decide (p1 = q1) && D.beq p2 q2 && eqK r s) = true := by simpa [eqK] using h
    obtain ⟨h2, h3⟩ := Bool.and_eq_true_iff.mp h1
    obtain ⟨h4, h5⟩ := Bool.and_eq_true_iff.mp h2
    rw [eqK_eq h3, D.beq_eq h5, of_decide_eq_true h4]
theorem eqF_refl : ∀ a : List (Str × D), eqF a a = true
  | [] => rfl
  | (p1, p2) :: r => by simp [eqF, D.beq_refl, eqF_refl r]
theorem eqK_refl : ∀ a : List (Key × D), eqK a a = true
  | [] => rfl
  | (p1, p2) :: r => by simp [eqK, D.beq_refl, eqK_refl r]
def Cell.eqv : Cell → Cell → Bool
  | .lst a, .lst b => D.beqL a b
  | .dct a, .dct b => eqK a b
  | .dctL a, .dctL b => eqK a b
  | .ins c a, .ins d b => decide (c = d) && eqF a b
  | _, _ => false
theorem Cell.eqv_eq : ∀ {a b : Cell}, Cell.eqv a b = true → a = b
  | .lst a, .lst b, h => by rw [D.beqL_eq (show D.beqL a b = true from h)]
  | .dct a, .dct b, h => by rw [eqK_eq (show eqK a b = true from h)]
  | .dctL a, .dctL b, h => by rw [eqK_eq (show eqK a b = true from h)]
  | .ins c a, .ins d b, h => by
    obtain ⟨h1, h2⟩ := Bool.and_eq_true_iff.mp (show (decide (c = d) && eqF a b) = true from h)
    rw [of_decide_eq_true h1, eqF_eq h2]
  | .lst _, .dct _, h | .lst _, .ins _ _, h | .dct _, .lst _, h | .dct _, .ins _ _, h | .ins _ _, .lst _, h | .ins _ _, .dct _, h | .lst _, .dctL _, h | .dct _, .dctL _, h | .ins _ _, .dctL _, h | .dctL _, .lst _, h | .dctL _, .dct _, h | .dctL _, .ins _ _, h => by simp [Cell.eqv] at h
theorem Cell.eqv_refl : ∀ a : Cell, Cell.eqv a a = true
  | .lst a => D.beqL_refl a
  | .dct a => eqK_refl a
  | .dctL a => eqK_refl a
  | .ins c a => by simp [Cell.eqv, eqF_refl]
/-- the elder cells are as they were, or hold no cells -/
def clean : Store → Store → Bool
  | [], _ => true
  | c :: r, c' :: r' => (Cell.eqv c c' || Cell.no c') && clean r r'
  | _ :: _, [] => false
theorem clean_at : ∀ {st st' : Store} {n : Nat} {c : Cell}, clean st st' = true → st[n]? = some c → ∃ c', st'[n]? = some c' ∧ (c = c' ∨ Cell.no c' = true)
  | [], _, _, _, _, e => by simp at e
  | _ :: _, [], _, _, h, _ => by simp [clean] at h
  | a :: r, a' :: r', 0, c, h, e => by
    have e1 : a = c := Option.some.inj e
    subst e1
    have h1 : ((Cell.eqv a a' || Cell.no a') && clean r r') = true := h
    obtain ⟨h2, _⟩ := Bool.and_eq_true_iff.mp h1
    rcases Bool.or_eq_true_iff.mp h2 with z | z
    · exact ⟨a', rfl, .inl (Cell.eqv_eq z)⟩
    · exact ⟨a', rfl, .inr z⟩
  | a :: r, a' :: r', n + 1, c, h, e => by
    have h1 : ((Cell.eqv a a' || Cell.no a') && clean r r') = true := h
    obtain ⟨_, h3⟩ := Bool.and_eq_true_iff.mp h1
    obtain ⟨c', e', z⟩ := clean_at h3 (show r[n]? = some c from e)
    exact ⟨c', e', z⟩
theorem clean_refl : ∀ st : Store, clean st st = true
  | [] => rfl
  | c :: r => by simp [clean, Cell.eqv_refl, clean_refl r]
theorem clean_app : ∀ (st g : Store), clean st (st ++ g) = true
  | [], _ => rfl
  | c :: r, g => by simp [clean, Cell.eqv_refl, clean_app r g]
theorem clean_len : ∀ {st st' : Store}, clean st st' = true → st.length ≤ st'.length
  | [], _, _ => Nat.zero_le _
  | _ :: _, [], h => by simp [clean] at h
  | _ :: r, _ :: r', h => by
    have h1 : clean r r' = true := (Bool.and_eq_true_iff.mp h).2
    exact Nat.succ_le_succ (clean_len h1)
theorem clean_set : ∀ {st st' : Store} (n : Nat) {c : Cell}, clean st st' = true → Cell.no c = true → clean st (st'.set n c) = true
  | [], _, _, _, _, _ => rfl
  | _ :: _, [], _, _, h, _ => h
  | _ :: r, _ :: r', 0, c, h, hc => by
    have h1 : clean r r' = true := (Bool.and_eq_true_iff.mp h).2
    show ((_ || Cell.no c) && clean r r') = true
    rw [hc, h1]
    simp
  | _ :: r, _ :: r', n + 1, c, h, hc => by
    obtain ⟨h0, h1⟩ := Bool.and_eq_true_iff.mp h
    show (_ && clean r (r'.set n c)) = true
    rw [clean_set n h1 hc, Bool.and_true]
    exact h0
section
variable {K : PySem.W.Frag} {G : Gx} {φ φ' ψ : List Addr} {H H' : Hp} {st st' : Store}
mutual
/-- what is told over φ speaks of φ's cells alone -/
theorem Rp.back : ∀ {d : D} {v : V} {v' : V}, Rp K G φ H d v → Rp K G (φ ++ ψ) H' d v' → Rp K G φ H' d v'
  | _, _, _, .non, .non => .non
  | _, _, _, .bl, .bl => .bl
  | _, _, _, .int, .int => .int
  | _, _, _, .str h, .str _ => .str h
  | _, _, _, .tup _ r, .tup a r' => .tup a (RpL.back r r')
  | _, _, _, .lst _ _ _ r, .lst a n z r' => .lst a (fun m => n (List.mem_append_left _ m)) z (RpL.back r r')
  | _, _, _, .scr _ r, .scr a r' => .scr a (RpL.back r r')
  | _, _, _, .cel h, .cel h' => .cel (by
      rw [List.getElem?_append_left (List.getElem?_eq_some_iff.mp h).1] at h'
      exact h')
  | _, _, _, .fn _, .fn h => .fn h
  | _, _, _, .hof _, .hof h => .hof h
theorem RpL.back : ∀ {ds : List D} {vs : List V} {vs' : List V}, RpL K G φ H ds vs → RpL K G (φ ++ ψ) H' ds vs' → RpL K G φ H' ds vs'
  | _, _, _, .nil, .nil => .nil
  | _, _, _, .cons a r, .cons a' r' => .cons (Rp.back a a') (RpL.back r r')
end
theorem RpF.back : ∀ {ds : List (Str × D)} {vs vs' : List (Str × V)}, RpF K G φ H ds vs → RpF K G (φ ++ ψ) H' ds vs' → RpF K G φ H' ds vs'
  | _, _, _, .nil, .nil => .nil
  | _, _, _, .cons a r, .cons a' r' => .cons (Rp.back a a') (RpF.back r r')
theorem RpK.back : ∀ {ds : List (Key × D)} {vs vs' : List (Key × V)}, RpK K G φ H ds vs → RpK K G (φ ++ ψ) H' ds vs' → RpK K G φ H' ds vs'
  | _, _, _, .nil, .nil => .nil
  | _, _, _, .cons a r, .cons a' r' => .cons (Rp.back a a') (RpK.back r r')
theorem RpF.less : ∀ {ds : List (Str × D)} {vs : List (Str × V)}, noF ds = true → RpF K G (φ ++ ψ) H ds vs → RpF K G φ H ds vs
  | _, _, _, .nil => .nil
  | _, _, h, .cons a r => by
    obtain ⟨h2, h3⟩ := Bool.and_eq_true_iff.mp h
    exact .cons (Rp.less h2 a) (RpF.less h3 r)
theorem RpK.less : ∀ {ds : List (Key × D)} {vs : List (Key × V)}, noK ds = true → RpK K G (φ ++ ψ) H ds vs → RpK K G φ H ds vs
  | _, _, _, .nil => .nil
  | _, _, h, .cons a r => by
    obtain ⟨h2, h3⟩ := Bool.and_eq_true_iff.mp h
    exact .cons (Rp.less h2 a) (RpK.less h3 r)
theorem CellOk.back {c : Cell} {o o' : HO} (h : CellOk K G φ H c o) (h' : CellOk K G (φ ++ ψ) H' c o') : CellOk K G φ H' c o' := by
  cases h with
  | lst r => cases h' with
    | lst r' => exact .lst (r.back r')
  | dct r => cases h' with
    | dct r' => exact .dct (r.back r')
  | dctZ r => cases h' with
    | dctZ r' => exact .dctZ (r.back r')
  | ins r => cases h' with
    | ins r' => exact .ins (r.back r')
theorem CellOk.less {c : Cell} {o : HO} (n : Cell.no c = true) (h : CellOk K G (φ ++ ψ) H c o) : CellOk K G φ H c o := by
  cases h with
  | lst r => exact .lst (RpL.less n r)
  | dct r => exact .dct (RpK.less n r)
  | dctZ r => exact .dctZ (RpK.less n r)
  | ins r => exact .ins (RpF.less n r)
/-- the younger cells are let go -/
theorem StOk.drop (s : StOk K G φ H st) (x : Ext φ H φ' H') (s' : StOk K G φ' H' st') (c : clean st st' = true) : Ext φ H φ H' ∧ StOk K G φ H' (st'.take st.length) := by
  obtain ⟨⟨ψ, e, f⟩, k, t, z, th⟩ := id x
  subst e
  have x0 : Ext φ H φ H' := ⟨⟨[], by simp, by simp⟩, k, t, z, th⟩
  refine ⟨x0, ⟨by rw [List.length_take, s.len]; have := clean_len c; omega, s.nd, fun n c' a h1 h2 => ?_, s'.tabs, s.anc.trans x0, fun a h => x0.there a (s.fx a h), s.fd⟩⟩
  have hn : n < st.length := by
    rw [← s.len]
    exact (List.getElem?_eq_some_iff.mp h2).1
  rw [List.getElem?_take_of_lt hn] at h1
  obtain ⟨o', e', r'⟩ := s'.cell n c' a h1 (by rw [List.getElem?_append_left (List.getElem?_eq_some_iff.mp h2).1]; exact h2)
  refine ⟨o', e', ?_⟩
  obtain ⟨c2, e2, z2⟩ := clean_at c (List.getElem?_eq_getElem hn)
  rw [h1] at e2
  cases e2
  rcases z2 with z2 | z2
  · obtain ⟨o, _, r⟩ := s.cell n st[n] a (List.getElem?_eq_getElem hn) h2
    rw [z2] at r
    exact r.back r'
  · exact r'.less z2
end
/-- a value as it leaves a def: a list of the def's own is none that changes any more -/
def frz (st' : Store) (n0 : Nat) (d : D) : Option D := match D.no d with
  | true => some d
  | false => (match d with
    | .cel j => (match decide (n0 ≤ j), st'[j]? with
      | true, some (.lst xs) => (match D.noL xs with
        | true => some (.lst xs)
        | false => none)
      | _, _ => none)
    | _ => none)
def endOk (st : Store) (d : D) (st' : Store) : R D := match decide (st'.length = st.length) with
  | true => .ok d st'
  | false => (match clean st st', frz st' st.length d with
    | true, some d' => .ok d' (st'.take st.length)
    | _, _ => .bad)
def endEx (st : Store) (c : Nat) (st' : Store) : R D := match decide (st'.length = st.length) with
  | true => .exc c st'
  | false => (match clean st st' with
    | true => .exc c (st'.take st.length)
    | false => .bad)
/-- fr: the younger cells are let go at the end -/
def runB (fr : Bool) (N n : Nat) (b : MS) (ds : List D) : M D := fun st => match decide (ds.length = n) with
  | false => .bad
  | true => (match b (ds.map some ++ List.replicate (N - n) none) st with
    | .nx _ st' => (match fr with
      | true => endOk st .non st'
      | false => .ok .non st')
    | .rt d st' => (match fr with
      | true => endOk st d st'
      | false => .ok d st')
    | .exc c _ st' => (match fr with
      | true => endEx st c st'
      | false => .exc c st')
    | _ => .bad)
/-! ### what a def promises -/
def WofE (E : XK) : WX := fun c d _ H => E c d H
def spM (K : PySem.W.Frag) (G : Gx) (n : Nat) (m : List D → M D) : Sp := fun vs H Q E => ∃ φ ds st, vs.length = n ∧ StOk K G φ H st ∧ RpL K G φ H ds vs ∧ Post K G (WofE E) [] φ H (m ds st) fun d _ φ' H' => ∀ v, Rp K G φ' H' d v → Q v H'
section
variable {K : PySem.W.Frag} {G : Gx} {φ : List Addr} {H : Hp} {st : Store} {W : WX} {σ : St} {Q : VK}
theorem endOk_post {d : D} {st' : Store} {φ' : List Addr} {H' : Hp} {v : V} (s : StOk K G φ H st) (x : Ext φ H φ' H') (s' : StOk K G φ' H' st') (r : Rp K G φ' H' d v)
    (h : Post K G W σ φ H (endOk st d st') fun d _ φ' H' => ∀ v, Rp K G φ' H' d v → Q v H') : Q v H' := by
  unfold endOk at h
  cases c0 : decide (st'.length = st.length) with
  | true =>
    rw [c0] at h
    exact h φ' H' x s' v r
  | false =>
    rw [c0] at h
    cases c : clean st st' with
    | false => rw [c] at h; exact h.elim
    | true =>
      rw [c] at h
      cases f : frz st' st.length d with
      | none => rw [f] at h; exact h.elim
      | some d' =>
        rw [f] at h
        obtain ⟨x0, s0⟩ := s.drop x s' c
        refine h φ H' x0 s0 v ?_
        obtain ⟨⟨ψ, e, fr⟩, _⟩ := id x
        subst e
        unfold frz at f
        cases nd : D.no d with
        | true =>
          rw [nd] at f
          cases f
          exact r.less nd
        | false =>
          rw [nd] at f
          cases d with
          | cel j =>
            cases g1 : decide (st.length ≤ j) with
            | false => simp [g1] at f
            | true =>
              cases g2 : st'[j]? with
              | none => simp [g2] at f
              | some cc =>
                cases cc with
                | lst xs =>
                  cases g3 : D.noL xs with
                  | false => simp [g1, g2, g3] at f
                  | true =>
                    simp [g1, g2, g3] at f
                    subst f
                    cases r with
                    | @cel _ a ha =>
                      obtain ⟨o, e1, e2⟩ := s'.cell j _ a g2 ha
                      cases e2 with
                      | @lst _ vs rl =>
                        refine .lst e1 (fun hm => ?_) (fun hm => s'.fd a hm (List.mem_of_getElem? ha)) (RpL.less g3 rl)
                        obtain ⟨i, hi, ei⟩ := List.getElem_of_mem hm
                        have hj : st.length ≤ j := of_decide_eq_true g1
                        have h1 : (φ ++ ψ)[i]? = some a := by rw [List.getElem?_append_left hi, List.getElem?_eq_getElem hi, ei]
                        have := nd_ix s'.nd h1 ha
                        rw [s.len] at hi
                        omega
                | dct _ => simp [g2] at f
                | dctL _ => simp [g2] at f
                | ins _ _ => simp [g2] at f
          | non => cases nd
          | bl _ => cases nd
          | int _ => cases nd
          | str _ => cases nd
          | tup _ => cases f
          | lst _ => cases f
          | fn _ => cases nd
          | hof => cases nd
          | scr _ => cases f
theorem endEx_post {c : Nat} {st' : Store} {φ' : List Addr} {H' : Hp} {R : D → Store → List Addr → Hp → Prop} (s : StOk K G φ H st) (x : Ext φ H φ' H') (s' : StOk K G φ' H' st')
    (h : Post K G W σ φ H (endEx st c st') R) : W (.ref (G.tb.exs c)) none σ H' := by
  unfold endEx at h
  cases c0 : decide (st'.length = st.length) with
  | true =>
    rw [c0] at h
    exact h φ' H' x s'
  | false =>
    rw [c0] at h
    cases c : clean st st' with
    | false => rw [c] at h; exact h.elim
    | true =>
      rw [c] at h
      obtain ⟨x0, s0⟩ := s.drop x s' c
      exact h φ H' x0 s0
end
theorem env_start {K : PySem.W.Frag} {G : Gx} {φ : List Addr} {H : Hp} {N : List Str} {n : Nat} {ds : List D} {vs : List V} (r : RpL K G φ H ds vs) (hl : vs.length = n) : EnvOk K G φ H (L2.start N vs) (ds.map some ++ List.replicate (N.length - n) none) := by
  have hl2 := r.length
  refine ⟨by unfold L2.start; simp [hl2, hl], fun i d h => ?_⟩
  have hi : i < ds.length := by
    by_cases hi : i < ds.length
    · exact hi
    · rw [List.getElem?_append_right (by simpa using hi), List.getElem?_replicate] at h
      split at h <;> cases h
  rw [List.getElem?_append_left (by simpa using hi), List.getElem?_map] at h
  cases e : ds[i]? with
  | none => rw [e] at h; cases h
  | some d' =>
    rw [e] at h
    cases h
    obtain ⟨v, h1, h2⟩ := r.get e
    refine ⟨v, ?_, h2⟩
    unfold L2.start
    rw [List.getElem?_append_left (by rw [List.length_map, ← hl2]; exact hi), List.getElem?_map, h1]
    rfl
section
variable {P : Program} {w : World} {K : PySem.W.Frag} {mg : Str → Option Value} {base : Heap}
/-- THE RULE for a def -/
theorem ok_def {x qual : Str} {st : Stmt} {f : Addr} {fd : FuncData} {N ps : List Str} {k n : Nat} {G : Gx} {b : MS} {fr : Bool} {len : Nat} (F : Fun K x qual st f fd) (S : FnScope N ps (defScope st)) (hn : ps.length = n) (hN : N.length = len)
    (hbody : ∀ (cdv : Value) (A : Around) (outer : List Env) (s : Shared) (H : Hp) (E : XK), Room k (A.deeper (envOfC qual (defScope st) s.heap.objs.size f cdv)) →
      SS (cxOf (L2N.CX P w) P w K mg base N qual (defScope st) f cdv A outer s H E) G (WofE E) (defBody st) b) : FnOk P w K mg base (L2N.CX P w) (k + 1) f fd ps (spM K G n (runB fr len n b)) := by
  obtain ⟨oc, od, kV, doc, pm, an, cdv, ct, osl, rfl, lk, hcd⟩ := F.ex
  refine fn_of lk hcd S (fun vs H Q E ⟨_, _, _, h, _⟩ => h.trans hn.symm) fun A outer s H vs Q E hr hsp => ?_
  obtain ⟨φ, ds, st0, hl, so, rl, p⟩ := hsp
  refine ⟨_, hbody cdv A outer s H E hr, φ, _, st0, ⟨so, env_start rl hl⟩, ?_⟩
  unfold runB at p
  cases c : decide (ds.length = n) with
  | false => rw [c] at p; exact p.elim
  | true =>
    rw [c] at p
    rw [hN]
    cases q : b (ds.map some ++ List.replicate (len - n) none) st0 with
    | nx ρ' st' =>
      rw [q] at p
      intro φ' H' σ' x' s'
      cases fr with
      | true => exact endOk_post so x' s'.s .non p
      | false => exact p φ' H' x' s'.s _ .non
    | rt d st' =>
      rw [q] at p
      intro φ' H' v x' s' r
      cases fr with
      | true => exact endOk_post so x' s' r p
      | false => exact p φ' H' x' s' _ r
    | exc c ρ' st' =>
      rw [q] at p
      intro φ' H' σ' x' s'
      cases fr with
      | true => exact endEx_post (σ := []) so x' s'.s p
      | false => exact p φ' H' x' s'.s
    | bk _ _ => rw [q] at p; exact p.elim
    | ct _ _ => rw [q] at p; exact p.elim
    | bad => rw [q] at p; exact p.elim
end
/-! ### calls -/
def noEx {α : Type} (m : M α) : M α := fun st => match m st with
  | .exc _ _ => .bad
  | r => r
theorem Post.noEx {K : PySem.W.Frag} {G : Gx} {W W' : WX} {σ σ' : St} {φ : List Addr} {H : Hp} {st : Store} {α : Type} {m : M α} {Q : α → Store → List Addr → Hp → Prop} (h : Post K G W σ φ H (noEx m st) Q) : Post K G W' σ' φ H (m st) Q := by
  unfold DL.noEx at h
  cases q : m st with
  | ok a st' => rw [q] at h; exact h
  | exc c st' => rw [q] at h; exact h.elim
  | bad => rw [q] at h; exact h.elim
def mCall (n : Nat) (m : List D → M D) (ms : Env' → M (List D)) (ρ : Env') : M D := bnd (ms ρ) fun ds => chk (decide (ds.length = n)) (m ds)
def mCall0 (m : List D → M D) (_ : Env') : M D := noEx (m [])
section
variable {X : Cx} {G : Gx} {W : WX} {k n : Nat} {f : Addr} {fd : FuncData} {ps : List Str} {m : List D → M D} {x : Str} {p pos : Pos}
theorem post_sp {σ : St} {φ : List Addr} {H : Hp} {Q : VK} {r : R D} (h : Post X.K G W σ φ H r fun d _ φ' H' => ∀ v, Rp X.K G φ' H' d v → Q v H') : Post X.K G (WofE (WE W σ)) [] φ H r fun d _ φ' H' => ∀ v, Rp X.K G φ' H' d v → Q v H' := by
  cases r with
  | ok d st => exact h
  | exc c st => exact h
  | bad => exact h
theorem me_call {e : Expr} {es : List Expr} {ms : Env' → M (List D)} (F : FnOk X.prog X.w X.K X.mg X.base (L2N.CX X.prog X.w) k f fd ps (spM X.K G n m)) (hr : Room k X.A) (hm : X.mg x = some (.ref f)) (hk : PySem.W.keepIn X.K (.ref f) = true) (hb : L2.Binds X.K fd ps [])
    (tk : L2N.Takes X W) (ha : MA X G W (e :: es) ms) (hg : Gl X x := by rfl) (hdb : (x == ("__debug__" : Str)) = false := by decide) (he : starEach (e :: es) X.env = (false, eval e X.env) :: starEach es X.env := by rfl)
    (hpl : (backTo pos (starEach es X.env)).any (·.1) = false := by rfl) : ME X G W (.Call (.Name x p) (e :: es) [] pos) (mCall n m ms) := by
  refine peImp (pe_callSD (dvs := []) (ds := []) (E := WE W) F hr hg hm hk hb .nil (fun σ => L2N.passAt tk σ) ha hdb he hpl) fun σ H Q ⟨φ, ρ, st, so, p⟩ => ?_
  refine tML_of so (Post.bind p) fun ds st1 φ1 H1 vs x1 so1 r1 p1 => ?_
  obtain ⟨c, p2⟩ := Post.chk p1
  rw [List.append_nil]
  exact ⟨φ1, ds, st1, by rw [← r1.length]; exact of_decide_eq_true c, so1.s, r1, post_sp p2⟩
theorem passN {X : Cx} : Passes (L2N.CX X.prog X.w) X E0 := fun _ _ _ _ _ _ _ h => by
  obtain ⟨_, _, _, _, _, _, _, _, _, _, _, _, z⟩ := h
  exact z.elim
theorem takesN {X : Cx} : L2N.Takes X (fun _ _ _ _ => False) := fun _ _ x => by
  obtain ⟨_, _, _, _, _, _, _, _, _, _, _, _, _, _, _, _, z⟩ := x
  exact z.elim
theorem me_call0 (F : FnOk X.prog X.w X.K X.mg X.base (L2N.CX X.prog X.w) k f fd ps (spM X.K G 0 m)) (hr : Room k X.A) (hm : X.mg x = some (.ref f)) (hk : PySem.W.keepIn X.K (.ref f) = true) (hb : L2.Binds X.K fd ps [])
    (hg : Gl X x := by rfl) (hdb : (x == ("__debug__" : Str)) = false := by decide) : ME X G W (.Call (.Name x p) [] [] pos) (mCall0 m) := by
  refine peImp (pe_call0 (dvs := []) (ds := []) F hr hg hm hk hb .nil passN hdb) fun σ H Q ⟨φ, ρ, st, so, p⟩ => ?_
  exact ⟨φ, [], st, rfl, so.s, .nil, Post.noEx p⟩
/-! ### comprehensions -/
/-- a comprehension's target: a name, or names -/
inductive CT where
  | nm (i : Nat) | tp (is : List Nat)
def gIs : List Nat → TGs
  | [] => gNil
  | i :: r => gCons (gName i) (gIs r)
def CT.tg (K : PySem.W.Frag) : CT → TG
  | .nm i => gName i
  | .tp is => gTup K is.length (gIs is)
def CT.gm : CT → GM
  | .nm i => gNm i
  | .tp is => gTp (is.map gNm)
def CT.all (own : List Nat) : CT → Bool
  | .nm i => decide (i ∈ own)
  | .tp is => is.all fun i => decide (i ∈ own)
theorem wipe_at {σ : St} : ∀ {vs : List Nat} {i : Nat}, (wipe σ vs)[i]? = if i ∈ vs then (if i < σ.length then some none else none) else σ[i]?
  | [], i => by simp [wipe]
  | v :: vs, i => by
    unfold wipe
    by_cases h : v = i
    · subst h
      by_cases hl : v < σ.length
      · rw [List.getElem?_set_self (by rw [wipe_length]; exact hl)]
        simp [hl]
      · rw [List.getElem?_eq_none (by rw [List.length_set, wipe_length]; omega)]
        simp [hl]
    · rw [List.getElem?_set_ne h, wipe_at]
      simp [Ne.symm h]
theorem wipe_set {σ : St} {vs : List Nat} {i : Nat} {x : Option V} (h : i ∈ vs) : wipe (σ.set i x) vs = wipe σ vs := by
  refine List.ext_getElem? fun j => ?_
  rw [wipe_at, wipe_at, List.length_set]
  by_cases hj : j ∈ vs
  · simp [hj]
  · rw [if_neg hj, if_neg hj, List.getElem?_set_ne (fun e => hj (by rw [← e]; exact h))]
def wipeE (ρ : Env') : List Nat → Env'
  | [] => ρ
  | v :: vs => (wipeE ρ vs).set v none
theorem EnvOk.wipe {K : PySem.W.Frag} {φ : List Addr} {H : Hp} {σ : St} {ρ : Env'} (e : EnvOk K G φ H σ ρ) : ∀ vs : List Nat, EnvOk K G φ H (L2.wipe σ vs) (wipeE ρ vs)
  | [] => e
  | v :: vs => (e.wipe vs).forget v
theorem gIs_of {K : PySem.W.Frag} {φ : List Addr} {H : Hp} {own : List Nat} {Q : St → Hp → Prop} : ∀ (is : List Nat) (ds : List D) (vs : List V) (σ : St) (ρ : Env') (st : Store) (R : Env' → Store → Prop), (is.all fun i => decide (i ∈ own)) = true → EnvOk K G φ H σ ρ → RpL K G φ H ds vs →
    (match gL (is.map gNm) ds ρ st with
      | .ok ρ' st' => st' = st → ∀ σ', EnvOk K G φ H σ' ρ' → L2.wipe σ' own = L2.wipe σ own → Q σ' H
      | _ => False) → gIs is vs σ H Q ∧ is.length = vs.length
  | [], [], _, σ, ρ, st, _, _, e, .nil, h => ⟨⟨rfl, h rfl σ e rfl⟩, rfl⟩
  | [], _ :: _, _, _, _, _, _, _, _, _, h => h.elim
  | _ :: _, [], _, _, _, _, _, _, _, _, h => h.elim
  | i :: is, d :: ds, _, σ, ρ, st, R, hall, e, .cons (v := v) (vs := vs) r rr, h => by
    obtain ⟨h1, h2⟩ := Bool.and_eq_true_iff.mp (show (decide (i ∈ own) && is.all fun i => decide (i ∈ own)) = true from hall)
    have hi : i ∈ own := of_decide_eq_true h1
    have := gIs_of (Q := Q) is ds vs (σ.set i (some v)) (ρ.set i (some d)) st R h2 (e.set r) rr (by
      have h3 : (match gL (is.map gNm) ds (ρ.set i (some d)) st with
        | .ok ρ' st' => st' = st → ∀ σ', EnvOk K G φ H σ' ρ' → L2.wipe σ' own = L2.wipe σ own → Q σ' H
        | _ => False) := h
      cases q : gL (is.map gNm) ds (ρ.set i (some d)) st with
      | ok ρ' st' =>
        rw [q] at h3
        intro e1 σ' e2 e3
        exact h3 e1 σ' e2 (e3.trans (wipe_set hi))
      | exc _ _ => rw [q] at h3; exact h3
      | bad => rw [q] at h3; exact h3)
    exact ⟨⟨v, vs, rfl, this.1⟩, by rw [List.length_cons, List.length_cons, this.2]⟩
theorem gL_st : ∀ (is : List Nat) (ds : List D) (ρ : Env') (st : Store), match gL (is.map gNm) ds ρ st with
    | .ok _ st' => st' = st
    | _ => True
  | [], [], _, _ => rfl
  | [], _ :: _, _, _ => trivial
  | _ :: _, [], _, _ => trivial
  | i :: is, d :: ds, ρ, st => gL_st is ds (ρ.set i (some d)) st
theorem ct_of {K : PySem.W.Frag} {φ : List Addr} {H : Hp} {own : List Nat} {Q : St → Hp → Prop} {c : CT} {d : D} {v : V} {σ : St} {ρ : Env'} {st : Store} (hall : c.all own = true) (e : EnvOk K G φ H σ ρ) (r : Rp K G φ H d v)
    (h : match c.gm d ρ st with
      | .ok ρ' st' => st' = st → ∀ σ', EnvOk K G φ H σ' ρ' → L2.wipe σ' own = L2.wipe σ own → Q σ' H
      | _ => False) : c.tg K v σ H Q := by
  cases c with
  | nm i => exact h rfl _ (e.set r) (wipe_set (of_decide_eq_true hall))
  | tp is =>
    cases r with
    | tup hs rl =>
      have := gIs_of (Q := Q) is _ _ σ ρ st (fun _ _ => True) hall e rl h
      exact ⟨_, _, rfl, hs, this.2.symm, this.1⟩
    | _ => exact h.elim
theorem ct_st {c : CT} {d : D} {ρ ρ' : Env'} {st st' : Store} (h : c.gm d ρ st = .ok ρ' st') : st' = st := by
  cases c with
  | nm i => cases h; rfl
  | tp is =>
    cases d with
    | tup xs =>
      have := gL_st is xs ρ st
      have h' : gL (is.map gNm) xs ρ st = .ok ρ' st' := h
      rw [h'] at this
      exact this
    | _ => cases h
theorem gL_ne : ∀ (is : List Nat) (ds : List D) (ρ : Env') (st st' : Store) (k : Nat), gL (is.map gNm) ds ρ st ≠ .exc k st'
  | [], [], _, _, _, _ => fun h => by cases h
  | [], _ :: _, _, _, _, _ => fun h => by cases h
  | _ :: _, [], _, _, _, _ => fun h => by cases h
  | i :: is, d :: ds, ρ, st, st', k => fun h => gL_ne is ds (ρ.set i (some d)) st st' k h
theorem ct_ne {c : CT} {d : D} {ρ : Env'} {st st' : Store} {k : Nat} (h : c.gm d ρ st = .exc k st') : False := by
  cases c with
  | nm i => cases h
  | tp is =>
    cases d with
    | tup xs => exact gL_ne is xs ρ st st' k h
    | _ => cases h
abbrev W0 : WX := fun _ _ _ _ => False
theorem postNow {K : PySem.W.Frag} {α : Type} {a : α} {φ : List Addr} {H : Hp} {st : Store} {σ : St} {Q : α → Store → List Addr → Hp → Prop} (s : StOk K G φ H st) (h : Post K G W σ φ H (ret a st) Q) : Q a st φ H := h φ H (Ext.refl _ _) s
theorem Post.imp' {K : PySem.W.Frag} {α : Type} {φ : List Addr} {H : Hp} {σ σ' : St} {r : R α} {Q Q' : α → Store → List Addr → Hp → Prop} (h : Post K G W0 σ φ H r Q) (q : ∀ a st φ' H', Ext φ H φ' H' → StOk K G φ' H' st → Q a st φ' H' → Q' a st φ' H') : Post K G W0 σ' φ H r Q' := by
  cases r with
  | ok a st' => exact fun φ2 H2 x2 s => q _ _ _ _ x2 s (h φ2 H2 x2 s)
  | exc c st' => exact h
  | bad => exact h
theorem Post.bind' {K : PySem.W.Frag} {α β : Type} {φ : List Addr} {H : Hp} {σ : St} {st : Store} {m : M α} {f : α → M β} {Q : β → Store → List Addr → Hp → Prop} (h : Post K G W σ φ H (bnd m f st) Q) :
    Post K G W σ φ H (m st) fun a st1 _ _ => Post K G W σ φ H (f a st1) Q := by
  unfold bnd at h
  cases e : m st with
  | ok a st' =>
    rw [e] at h
    exact fun φ2 H2 x2 s => h
  | exc c st' =>
    rw [e] at h
    exact h
  | bad =>
    rw [e] at h
    exact h
/-- a list in the making more -/
theorem Post.fxr {K : PySem.W.Frag} {α : Type} {φ : List Addr} {H : Hp} {σ : St} {r : R α} {a : Addr} {Q : α → Store → List Addr → Hp → Prop} (h : Post K G W0 σ φ H r Q) : Post K (G.plus a) W0 σ φ H r Q := by
  cases r with
  | ok a st' => exact fun φ2 H2 x2 s => h φ2 H2 x2 s.minus
  | exc c st' => exact fun φ2 H2 x2 s => h φ2 H2 x2 s.minus
  | bad => exact h
def cmpL (ck : Store → Bool) (g : GM) (tt : Env' → M Bool) (e : Env' → M D) (ρ : Env') : List D → M (List D)
  | [] => fun st => (match ck st with
    | true => .ok [] st
    | false => .bad)
  | x :: xs => fun st => (match ck st with
    | true => bnd (g x ρ) (fun ρ1 => bnd (tt ρ1) fun b => match b with
      | true => bnd (e ρ1) fun y => bnd (cmpL ck g tt e ρ xs) fun ys => ret (y :: ys)
      | false => cmpL ck g tt e ρ xs) st
    | false => .bad)
def mComp (own : List Nat) (c : CT) (mi : Env' → M Itm) (tt : Env' → M Bool) (e : Env' → M D) (ρ : Env') : M D := bnd (mi ρ) fun it => chk (decide (it.xs.length ≤ LIM)) (bnd (noEx (cmpL it.ck c.gm tt e (wipeE ρ own) it.xs)) fun ys => ret (.lst ys))
def yes (_ : Env') : M Bool := ret true
def tMx (K : PySem.W.Frag) (G : Gx) (m : Env' → M D) : TE := fun σ H Q => ∃ fx, tM K (G.fl fx) W0 m σ H Q
def tMBx (K : PySem.W.Frag) (G : Gx) (m : Env' → M Bool) : TT := fun σ H Q => ∃ fx, tMB K (G.fl fx) W0 m σ H Q
theorem pe_fx {X : Cx} {e : Expr} {m : Env' → M D} (h : ∀ fx, ME X (G.fl fx) W0 e m) : PE X e (tMx X.K G m) := ⟨fun pins s σ H Q I ⟨fx, q⟩ => (h fx).run pins s σ H Q I q⟩
theorem pt_fx {X : Cx} {e : Expr} {m : Env' → M Bool} (h : ∀ fx, MT X (G.fl fx) W0 e m) : PT X e (tMBx X.K G m) := ⟨fun pins s σ H Q I ⟨fx, q⟩ => (h fx).run pins s σ H Q I q⟩
theorem mts_nil {X : Cx} : PTs X [] (tMBx X.K G yes) := ⟨fun pins s σ H Q I ⟨fx, φ, ρ, st, so, p⟩ => wpAny_tests_nil ⟨H, I, p φ H (Ext.refl _ _) so.s⟩⟩
theorem mts_one {X : Cx} {c : Expr} {m : Env' → M Bool} (h : ∀ fx, MT X (G.fl fx) W0 c m) : PTs X [c] (tMBx X.K G m) := pts_one (pt_fx h)
/-- the walk of a comprehension by its mirror -/
theorem comp_of {K : PySem.W.Frag} {J : It} {it : Itm} {c : CT} {own : List Nat} {tt : Env' → M Bool} {e : Env' → M D} {φ1 : List Addr} {H1 : Hp} {σ : St} {ρ : Env'} {st1 : Store} {Q : VK} (hall : c.all own = true) (hJ2 : ∀ fx, (∀ a ∈ fx, a ∈ G.fx ∨ H1 a = none) → ItD K (G.fl fx) φ1 H1 J it) (so : SOk K G φ1 H1 σ ρ st1) (hlen : decide (it.xs.length ≤ LIM) = true)
    (p : Post K G W σ φ1 H1 (bnd (noEx (cmpL it.ck c.gm tt e (wipeE ρ own) it.xs)) (fun ys => ret (D.lst ys)) st1) fun d _ φ' H' => ∀ v, Rp K G φ' H' d v → Q v H') :
    ∀ Da, H1 Da = none → ∃ Wk : Nat → Nat → Hp → Prop, (∃ m, Wk 0 m (upd H1 Da (.lst []))) ∧ ∀ i m H, Wk i m H →
      (J.stop i H ∧ Q (.ref Da) H) ∨ (J.go i H ∧ ∃ Nx : Hp → Prop, (∀ H', Nx H' → ∃ m', m' < m ∧ Wk (i + 1) m' H') ∧ ∀ x H', J.yld i H x H' → c.tg K x (L2.wipe σ own) H' fun σ2 H2 => L2.wipe σ2 own = L2.wipe σ own ∧ (tMBx K G tt) σ2 H2 fun b H3 =>
        if b = true then (tMx K G e) σ2 H3 fun y H4 => ∃ acc, H4 Da = some (.lst acc) ∧ acc.length < sizeLine ∧ Nx (upd H4 Da (.lst (acc ++ [y]))) else Nx H3) := by
  intro Da hDa
  have hJ : ItD K G φ1 H1 J it := hJ2 G.fx fun a h => .inl h
  have p0 := Post.noEx (W' := W0) (σ' := []) (Post.bind p)
  have nDa : Da ∉ φ1 := so.s.fresh hDa
  have nfx : Da ∉ G.fx := so.s.nofx hDa
  -- what holds at turn i: the list at Da bears acc; the rest is as the mirror says
  let PV : Nat → Hp → Prop := fun i H => ∃ φ st acc vs, i ≤ it.xs.length ∧ Ext φ1 H1 φ H ∧ StOk K (G.plus Da) φ H st ∧ EnvOk K (G.plus Da) φ H (L2.wipe σ own) (wipeE ρ own) ∧ H Da = some (.lst vs) ∧ RpL K (G.plus Da) φ H acc vs ∧ acc.length ≤ i ∧
    Post K G W0 [] φ1 H1 (cmpL it.ck c.gm tt e (wipeE ρ own) (it.xs.drop i) st) fun ys _ φ' H' => ∀ v, Rp K G φ' H' (.lst (acc ++ ys)) v → Q v H'
  refine ⟨fun i m H => m = it.xs.length - i ∧ PV i H, ⟨it.xs.length, by simp, φ1, st1, [], [], Nat.zero_le _, Ext.new hDa, so.s.plus hDa, ⟨(so.e.wipe own).len, fun i d h => ?_⟩, upd_same, .nil, Nat.le_refl _, ?_⟩, ?_⟩
  · obtain ⟨v, h1, h2⟩ := (so.e.wipe own).get i d h
    exact ⟨v, h1, (h2.plus hDa).mono (Ext.new hDa)⟩
  · refine p0.imp fun ys st' φ' H' x' s' q v r => ?_
    exact postNow (W := W) (σ := σ) s' q v r
  · rintro i m H ⟨rfl, φ, st, acc, vs, hi, x, s, ev, hd, ra, hacc, p⟩
    have nd : Da ∉ φ := s.fd Da List.mem_cons_self
    by_cases hlt : i < it.xs.length
    · right
      have ed : it.xs.drop i = it.xs[i] :: it.xs.drop (i + 1) := List.drop_eq_getElem_cons hlt
      rw [ed] at p
      unfold cmpL at p
      cases ck : it.ck st with
      | false => rw [ck] at p; exact p.elim
      | true =>
        rw [ck] at p
        obtain ⟨hgo, hy⟩ := (hJ2 (Da :: G.fx) fun a h => (List.mem_cons.mp h).elim (fun e => .inr (by rw [e]; exact hDa)) .inl).go φ H st i it.xs[i] x s ck (List.getElem?_eq_getElem hlt)
        refine ⟨hgo, PV (i + 1), fun H' q => ⟨it.xs.length - (i + 1), by omega, rfl, q⟩, fun y H' hyl => ?_⟩
        obtain ⟨k, r⟩ := hy y H' hyl
        have xk : Ext φ H φ H' := Ext.of_same k
        refine ct_of (st := st) hall (ev.mono xk) r ?_
        have p1 := Post.bind' p
        cases q : c.gm it.xs[i] (wipeE ρ own) st with
        | exc _ _ => rw [q] at p1; exact (ct_ne q).elim
        | bad => rw [q] at p1; exact p1.elim
        | ok ρ1 st2 =>
          rw [q] at p1
          have est := ct_st q
          subst est
          intro _ σ1 e1 hw
          refine ⟨hw.trans (by
            refine List.ext_getElem? fun j => ?_
            rw [wipe_at, wipe_length, wipe_at]
            by_cases hj : j ∈ own <;> simp [hj]), Da :: G.fx, φ, ρ1, st2, ⟨s.same k, e1⟩, ?_⟩
          have p2 := Post.bind' (p1 φ H' (x.trans xk) (s.same k).minus)
          refine (Post.fxr (Post.ext (x.trans xk) p2)).imp' fun b st3 φ3 H3 x3 s3 p3 => ?_
          have x13 : Ext φ1 H1 φ3 H3 := (x.trans xk).trans x3
          have hd3 : H3 Da = some (.lst vs) := x3.keep _ _ (k _ _ hd) nd fun ps z => by cases z
          have ra3 : RpL K (G.plus Da) φ3 H3 acc vs := (ra.mono xk).mono x3
          cases b with
          | false =>
            exact iteF ⟨φ3, st3, acc, vs, hlt, x13, s3, (ev.mono xk).mono x3, hd3, ra3, by omega, p3⟩
          | true =>
            refine iteT ⟨Da :: G.fx, φ3, ρ1, st3, ⟨s3, e1.mono x3⟩, ?_⟩
            refine (Post.fxr (Post.ext x13 (Post.bind' p3))).imp' fun dy st4 φ4 H4 x4 s4 p4 vy ry => ?_
            have nd3 : Da ∉ φ3 := s3.fd Da List.mem_cons_self
            have nd4 : Da ∉ φ4 := s4.fd Da List.mem_cons_self
            have hd4 : H4 Da = some (.lst vs) := x4.keep _ _ hd3 nd3 fun ps z => by cases z
            have ra4 := ra3.mono x4
            have hl : vs.length ≤ i := by rw [← ra.length]; exact hacc
            have hlim : it.xs.length ≤ sizeLine := lim_line hlen
            refine ⟨vs, hd4, by omega, ?_⟩
            -- the list at Da grows: all else stands
            have xgen : ∀ {φz : List Addr} {Hz : Hp}, Hz Da = none → Ext φz Hz φ4 H4 → Ext φz Hz φ4 (upd H4 Da (.lst (vs ++ [vy]))) := fun {φz Hz} hz x14 => by
              refine ⟨x14.pre, fun a o h n z => ?_, fun a xs h => ?_, fun a o u h => ?_, fun a h => ?_⟩
              · rw [upd_ne (ne_of_none h hz)]; exact x14.keep a o h n z
              · rw [upd_ne (ne_of_none h hz)]; exact x14.tups a xs h
              · rw [upd_ne (ne_of_none h hz)]; exact x14.frzs a o u h
              · by_cases ha : a = Da
                · subst ha; exact absurd hz h
                · rw [upd_ne ha]; exact x14.there a h
            have x14 := x13.trans x4
            have xg := xgen hDa x14
            have hm : Da ∈ (G.plus Da).fx := List.mem_cons_self
            have hanc : Ext G.φ0 G.H0 φ4 (upd H4 Da (.lst (vs ++ [vy]))) := so.s.anc.trans xg
            refine ⟨φ4, st4, acc ++ [dy], vs ++ [vy], hlt, xg, s4.flux hd4 hm nd4 hanc, ⟨(so.e.wipe own).len, fun j d h => ?_⟩, upd_same, (ra4.snoc ry).flux hd4 hm, by rw [List.length_append]; show acc.length + 1 ≤ i + 1; omega, ?_⟩
            · obtain ⟨v, h1, h2⟩ := ev.get j d h
              exact ⟨v, h1, Rp.flux hd4 hm ((((h2.mono xk).mono x3)).mono x4)⟩
            · refine (Post.bind' p4).imp fun ys st5 φ5 H5 x5 s5 q5 v r => ?_
              refine postNow (W := W0) (σ := []) s5 (Post.ext x5 q5) v ?_
              rw [List.append_assoc] at r
              exact r
    · left
      have ei : i = it.xs.length := by omega
      subst ei
      rw [List.drop_length] at p
      unfold cmpL at p
      cases ck : it.ck st with
      | false => rw [ck] at p; exact p.elim
      | true =>
        rw [ck] at p
        refine ⟨hJ.stop φ H st x s.minus ck, p φ H x s.minus (.ref Da) ?_⟩
        rw [List.append_nil]
        exact .lst hd nd nfx ra.minus

section
variable {elt tg iter : Expr} {ifs : List Expr} {scope : Scope} {own : List (Str × Nat)} {c : CT} {mi : Env' → M Itm} {tt : Env' → M Bool} {e : Env' → M D}
theorem me_comp (hc : X.calm = true) (hN : X.N.Nodup) (hi : MI X G W tg iter mi) (ok : BlkOk X.N X.env.scope scope own) (hall : c.all (own.map (·.2)) = true)
    (hg : ∀ (s : Shared) (H : Hp) (C : Addr) (cl : List (Str × Addr)) (fp : List Addr), PG (X.blk s H scope (compEnvC scope cl C X.env) fp) tg (c.tg X.K))
    (ht : ∀ (s : Shared) (H : Hp) (C : Addr) (cl : List (Str × Addr)) (fp : List Addr), PTs (X.blk s H scope (compEnvC scope cl C X.env) fp) ifs (tMBx X.K G tt))
    (he : ∀ (fx : List Addr) (s : Shared) (H : Hp) (C : Addr) (cl : List (Str × Addr)) (fp : List Addr), ME (X.blk s H scope (compEnvC scope cl C X.env) fp) (G.fl fx) W0 elt e) (hs : ∀ x, foldedSetIterable iter X.env x = pure x := by intro _; rfl) :
    ME X G W (.ListComp elt [⟨tg, iter, ifs, 0⟩] scope pos) (mComp (own.map (·.2)) c mi tt e) := by
  refine peImp (pe_lc (own := own) (te := tMx X.K G e) hc hN hi ok hg ht (fun s H C cl fp => pe_fx fun fx => he fx s H C cl fp) hs) fun σ H Q ⟨φ, ρ, st, so, p⟩ => ?_
  refine ⟨φ, ρ, st, so, (Post.bind p).imp fun it st1 φ1 H1 x1 s1 p1 J hJ => ?_⟩
  obtain ⟨hl, p2⟩ := Post.chk p1
  exact comp_of hall hJ ⟨s1, so.e.mono x1⟩ hl p2
theorem st_setLc {i : Nat} {y : Str} {py spos : Pos} (hc : X.calm = true) (hN : X.N.Nodup) (hy : X.N[i]? = some y) (hyl : X.env.scope.names.lookup y = some .local)
    (hsw : swapsWith (.ListComp elt [⟨tg, iter, ifs, 0⟩] scope pos) (some (.Name y py)) spos.line X.env = pure true) (hi : MI X G W tg iter mi) (ok : BlkOk X.N X.env.scope scope own) (hall : c.all (own.map (·.2)) = true)
    (hg : ∀ (s : Shared) (H : Hp) (C : Addr) (cl : List (Str × Addr)) (fp : List Addr), PG (X.blk s H scope (compEnvC scope cl C X.env) fp) tg (c.tg X.K))
    (ht : ∀ (s : Shared) (H : Hp) (C : Addr) (cl : List (Str × Addr)) (fp : List Addr), PTs (X.blk s H scope (compEnvC scope cl C X.env) fp) ifs (tMBx X.K G tt))
    (he : ∀ (fx : List Addr) (s : Shared) (H : Hp) (C : Addr) (cl : List (Str × Addr)) (fp : List Addr), ME (X.blk s H scope (compEnvC scope cl C X.env) fp) (G.fl fx) W0 elt e) (hs : ∀ x, foldedSetIterable iter X.env x = pure x := by intro _; rfl) :
    ST X G W (.Assign [.Name y py] (.ListComp elt [⟨tg, iter, ifs, 0⟩] scope pos) spos) (sAsg (mComp (own.map (·.2)) c mi tt e) (gNm i)) := by
  refine psImp (ps_setLc (own := own) (te := tMx X.K G e) hc hN hy hyl hsw hi ok hg ht (fun s H C cl fp => pe_fx fun fx => he fx s H C cl fp) hs) fun De σ H ⟨φ, ρ, st, so, p⟩ => ?_
  have p0 := PostS.sb so.e p
  refine ⟨φ, ρ, st, so, (Post.bind p0).imp fun it st1 φ1 H1 x1 s1 p1 J hJ => ?_⟩
  obtain ⟨hl, p2⟩ := Post.chk p1
  refine comp_of (W := W) (Q := fun x H1 => gName i x σ H1 De.nx) hall hJ ⟨s1, so.e.mono x1⟩ hl (p2.imp fun d st2 φ2 H2 x2 s2 p3 v r => ?_)
  exact p3 φ2 H2 _ (Ext.refl _ _) ⟨s2, ((so.e.mono x1).mono x2).set r⟩
end
end
end DL
namespace DL
open PySem PySem.Spec PyProof.Rows L2
/-! ### arithmetic -/
def mulOk (i j : Int) : Bool := decide (i.natAbs < 2 ^ 64) || decide (j.natAbs < 2 ^ 64) || decide (i.natAbs.log2 + j.natAbs.log2 < 1000000)
def lLst : D → M (List D)
  | .lst xs => ret xs
  | .cel n => fun st => (match st[n]? with
    | some (.lst xs) => .ok xs st
    | _ => .bad)
  | _ => fail
def dCat (x y : D) : M D := bnd (lLst x) fun xs => bnd (lLst y) fun ys => chk (decide (xs.length + ys.length ≤ LIM)) (ret (.lst (xs ++ ys)))
def dAdd (x y : D) : M D := match x with
  | .int i => (match y with
    | .int j => ret (.int (i + j))
    | _ => fail)
  | .str s => (match y with
    | .str t => chk (decide (s.length + t.length ≤ LIM)) (ret (.str (s ++ t)))
    | _ => fail)
  | .tup xs => (match y with
    | .tup ys => chk (decide (xs.length + ys.length ≤ LIM)) (ret (.tup (xs ++ ys)))
    | _ => fail)
  | .lst xs => dCat (.lst xs) y
  | .cel n => dCat (.cel n) y
  | _ => fail
def i2 (f : Int → Int → M D) (x y : D) : M D := match x with
  | .int i => (match y with
    | .int j => f i j
    | _ => fail)
  | _ => fail
def dSub : D → D → M D := i2 fun i j => ret (.int (i - j))
def dMulI : D → D → M D := i2 fun i j => chk (mulOk i j) (ret (.int (i * j)))
def repOk (n : Nat) (k : Int) : Bool := decide (n * k.toNat ≤ LIM) && decide (k < 2 ^ 63) && decide (-(2 ^ 63) ≤ k)
def dMul (x y : D) : M D := match x with
  | .int i => dMulI (.int i) y
  | .lst xs => (match y with
    | .int k => chk (repOk xs.length k) (ret (.lst (List.replicate k.toNat xs).flatten))
    | _ => fail)
  | _ => fail
/-- a list times a number, a list that will change -/
def dRepC (x y : D) : M D := match x with
  | .lst xs => (match y with
    | .int k => chk (repOk xs.length k) (newCell (.lst (List.replicate k.toNat xs).flatten))
    | _ => fail)
  | _ => fail
def dMod : D → D → M D := i2 fun i j => chk (decide (0 < j)) (ret (.int (i % j)))
def dFdiv : D → D → M D := i2 fun i j => chk (decide (0 < j) && decide (j.natAbs.log2 < 9000)) (ret (.int (i / j)))
def powOk (i j : Int) : Bool := decide (0 ≤ j) && decide (j ≤ 1000000) && decide (i.natAbs < 2 ^ 64)
def dPow : D → D → M D := i2 fun i j => chk (powOk i j) (ret (.int (i ^ j.toNat)))
def dShl : D → D → M D := i2 fun i j => chk (powOk i j) (ret (.int (i * 2 ^ j.toNat)))
def dShr : D → D → M D := i2 fun i j => chk (decide (0 ≤ j)) (ret (.int (i / 2 ^ j.toNat)))
def dLt : D → D → M D := i2 fun i j => ret (.bl (decide (i < j)))
def dLe : D → D → M D := i2 fun i j => ret (.bl (decide (i ≤ j)))
def dGt : D → D → M D := i2 fun i j => ret (.bl (decide (j < i)))
def dGe : D → D → M D := i2 fun i j => ret (.bl (decide (j ≤ i)))
theorem ab {n : Nat} {i : Int} (h : decide (i.natAbs < n) = true) : -(n : Int) < i ∧ i < n := by
  have := of_decide_eq_true h
  omega
theorem str_app {s t : List Nat} : (⟨(s ++ t).toArray⟩ : Str) = (⟨s.toArray⟩ : Str) ++ ⟨t.toArray⟩ := by
  show (⟨(s ++ t).toArray⟩ : Str) = ⟨s.toArray ++ t.toArray⟩
  rw [List.append_toArray]
theorem str_len {s : List Nat} : (⟨s.toArray⟩ : Str).length = s.length := by simp [Str.length]
section
variable {X : Cx} {G : Gx} {W : WX} {σ : St} {φ : List Addr} {H : Hp} {st : Store}
theorem lLst_of {x : D} {v : V} {Q : List D → Store → List Addr → Hp → Prop} (s : StOk X.K G φ H st) (r : Rp X.K G φ H x v) (p : Post X.K G W σ φ H (lLst x st) Q) :
    ∃ a vs xs, v = .ref a ∧ H a = some (.lst vs) ∧ RpL X.K G φ H xs vs ∧ Q xs st φ H := by
  cases r with
  | lst hd n z rl => exact ⟨_, _, _, rfl, hd, rl, postNow (W := W) (σ := σ) s p⟩
  | @cel n a h =>
    have p' : Post X.K G W σ φ H (match st[n]? with
      | some (.lst xs) => (.ok xs st : R (List D))
      | _ => .bad) Q := p
    cases e : st[n]? with
    | none => rw [e] at p'; exact p'.elim
    | some c =>
      rw [e] at p'
      cases c with
      | lst xs =>
        obtain ⟨o, e1, e2⟩ := s.cell n _ a e h
        cases e2 with
        | lst rl => exact ⟨_, _, _, rfl, e1, rl, postNow (W := W) (σ := σ) s p'⟩
      | dct _ => exact p'.elim
      | dctL _ => exact p'.elim
      | ins _ _ => exact p'.elim
  | _ => exact p.elim
theorem opI2 {g : Int → Int → D} {gv : Int → Int → V} (hg : ∀ i j φ H, Rp X.K G φ H (g i j) (gv i j)) : OpD X G (rI0 gv) (i2 fun i j => ret (g i j)) := by
  intro φ H st dx dy x y W σ Q s rx ry p
  cases rx with
  | int => cases ry with
    | int => exact ⟨_, _, rfl, rfl, postNow (W := W) (σ := σ) s p _ (hg _ _ _ _)⟩
    | _ => exact p.elim
  | _ => exact p.elim
theorem opI2c {g : Int → Int → D} {gv : Int → Int → V} {C : Int → Int → Prop} {c : Int → Int → Bool} (hc : ∀ i j, c i j = true → C i j) (hg : ∀ i j φ H, Rp X.K G φ H (g i j) (gv i j)) : OpD X G (rI C gv) (i2 fun i j => chk (c i j) (ret (g i j))) := by
  intro φ H st dx dy x y W σ Q s rx ry p
  cases rx with
  | int => cases ry with
    | int =>
      obtain ⟨h1, h2⟩ := Post.chk p
      exact ⟨_, _, rfl, rfl, hc _ _ h1, postNow (W := W) (σ := σ) s h2 _ (hg _ _ _ _)⟩
    | _ => exact p.elim
  | _ => exact p.elim
theorem od_sub : OpD X G (rI0 fun i j => .int (i - j)) dSub := opI2 fun _ _ _ _ => .int
theorem od_lt : OpD X G (rI0 fun i j => .bl (decide (i < j))) dLt := opI2 fun _ _ _ _ => .bl
theorem od_le : OpD X G (rI0 fun i j => .bl (decide (i ≤ j))) dLe := opI2 fun _ _ _ _ => .bl
theorem od_gt : OpD X G (rI0 fun i j => .bl (decide (j < i))) dGt := opI2 fun _ _ _ _ => .bl
theorem od_ge : OpD X G (rI0 fun i j => .bl (decide (j ≤ i))) dGe := opI2 fun _ _ _ _ => .bl
theorem od_mod : OpD X G (rI (fun _ j => 0 < j) fun i j => .int (i % j)) dMod := opI2c (fun _ _ h => of_decide_eq_true h) fun _ _ _ _ => .int
theorem od_fdiv : OpD X G (rI CDivW fun i j => .int (i / j)) dFdiv := opI2c (fun _ _ h => by
  obtain ⟨h1, h2⟩ := Bool.and_eq_true_iff.mp h
  exact ⟨of_decide_eq_true h1, of_decide_eq_true h2⟩) fun _ _ _ _ => .int
theorem powOk_c (i j : Int) (h : powOk i j = true) : CPow i j := by
  obtain ⟨h1, h2⟩ := Bool.and_eq_true_iff.mp h
  obtain ⟨h3, h4⟩ := Bool.and_eq_true_iff.mp h1
  exact ⟨of_decide_eq_true h3, of_decide_eq_true h4, of_decide_eq_true h2⟩
theorem od_pow : OpD X G (rI CPow fun i j => .int (i ^ j.toNat)) dPow := opI2c powOk_c fun _ _ _ _ => .int
theorem od_shl : OpD X G (rI CPow fun i j => .int (i * 2 ^ j.toNat)) dShl := opI2c powOk_c fun _ _ _ _ => .int
theorem od_shr : OpD X G (rI (fun _ j => 0 ≤ j) fun i j => .int (i / 2 ^ j.toNat)) dShr := opI2c (fun _ _ h => of_decide_eq_true h) fun _ _ _ _ => .int
def CMulA (i j : Int) : Prop := CMul i j ∨ CMulW i j
theorem op_mulA : OpR X (binaryOp .Mult) (rI CMulA fun i j => .int (i * j)) := opI fun _ _ _ _ _ _ _ hc q => mul_int q (hc.elim CMul.ok CMulW.ok)
theorem mulOk_c (i j : Int) (h : mulOk i j = true) : CMulA i j := by
  rcases Bool.or_eq_true_iff.mp h with h | h
  · rcases Bool.or_eq_true_iff.mp h with h | h
    · exact .inl (.inl (by have := ab h; omega))
    · exact .inl (.inr (by have := ab h; omega))
  · have h' : i.natAbs.log2 + j.natAbs.log2 < 1000000 := of_decide_eq_true h
    exact .inr h'
def rAddD (K : PySem.W.Frag) : R2 := fun x y H Q => (rI0 fun i j => .int (i + j)) x y H Q ∨ (∃ i j, x = .str i ∧ y = .str j ∧ i.length + j.length ≤ sizeLine ∧ Q (.str (i ++ j)) H) ∨ rCatA K x y H Q ∨ rCat x y H Q
theorem op_addD : OpR X (binaryOp .Add) (rAddD X.K) := OpR.or op_add (OpR.or op_add_str (OpR.or op_catA op_cat))
theorem all_app {s t : List Nat} {p : Nat → Bool} (h1 : s.all p = true) (h2 : t.all p = true) : (s ++ t).all p = true := by rw [List.all_append, h1, h2]; rfl
theorem dCat_of {dx dy : D} {x y : V} {Q : VK} (s : StOk X.K G φ H st) (rx : Rp X.K G φ H dx x) (ry : Rp X.K G φ H dy y) (p : Post X.K G W σ φ H (dCat dx dy st) fun d _ φ' H' => ∀ v, Rp X.K G φ' H' d v → Q v H') : rCat x y H Q := by
  obtain ⟨a, vs, xs, rfl, h1, r1, p1⟩ := lLst_of s rx (Post.bind p)
  obtain ⟨b, ws, ys, rfl, h2, r2, p2⟩ := lLst_of s ry (Post.bind p1)
  obtain ⟨c, p3⟩ := Post.chk p2
  refine ⟨a, b, vs, ws, rfl, rfl, h1, h2, by rw [← r1.length, ← r2.length]; exact lim_line c, fun q hq => ?_⟩
  exact Post.made (G := G) (W := W) (σ := σ) s p3 hq _ (rp_lst s hq (r1.append r2))
theorem od_add : OpD X G (rAddD X.K) dAdd := by
  intro φ H st dx dy x y W σ Q s rx ry p
  cases rx with
  | int => cases ry with
    | int => exact .inl ⟨_, _, rfl, rfl, postNow (W := W) (σ := σ) s p _ .int⟩
    | _ => exact p.elim
  | str hx => cases ry with
    | str hy =>
      obtain ⟨c, p1⟩ := Post.chk p
      refine .inr (.inl ⟨_, _, rfl, rfl, by rw [str_len, str_len]; exact lim_line c, ?_⟩)
      have := postNow (W := W) (σ := σ) s p1 _ (.str (all_app hx hy))
      rw [str_app] at this
      exact this
    | _ => exact p.elim
  | tup hx rx => cases ry with
    | tup hy ry =>
      obtain ⟨c, p1⟩ := Post.chk p
      refine .inr (.inr (.inl ⟨_, _, _, _, rfl, rfl, hx, hy, by rw [← rx.length, ← ry.length]; exact lim_line c, fun e => ?_, fun _ e => ?_, fun _ _ q hq => ?_⟩))
      · subst e
        cases rx
        exact postNow (W := W) (σ := σ) s p1 _ (.tup hy ry)
      · subst e
        cases ry
        rw [List.append_nil] at p1
        exact postNow (W := W) (σ := σ) s p1 _ (.tup hx rx)
      · exact Post.made (G := G) (W := W) (σ := σ) s p1 hq _ (rp_tup hq (rx.append ry))
    | _ => exact p.elim
  | lst a b c d => exact .inr (.inr (.inr (dCat_of s (.lst a b c d) ry p)))
  | cel h => exact .inr (.inr (.inr (dCat_of s (.cel h) ry p)))
  | _ => exact p.elim
theorem rep_rp {φ : List Addr} {H : Hp} {xs : List D} {vs : List V} (r : RpL X.K G φ H xs vs) : ∀ n : Nat, RpL X.K G φ H (List.replicate n xs).flatten (List.replicate n vs).flatten
  | 0 => .nil
  | n + 1 => by
    rw [List.replicate_succ, List.replicate_succ, List.flatten_cons, List.flatten_cons]
    exact r.append (rep_rp r n)
theorem repOk_c {n : Nat} {k : Int} (h : repOk n k = true) : n * k.toNat ≤ sizeLine ∧ k < 2 ^ 63 ∧ -(2 ^ 63) ≤ k := by
  obtain ⟨h1, h2⟩ := Bool.and_eq_true_iff.mp h
  obtain ⟨h3, h4⟩ := Bool.and_eq_true_iff.mp h1
  exact ⟨lim_line h3, of_decide_eq_true h4, of_decide_eq_true h2⟩
def rMulD : R2 := fun x y H Q => (rI CMulA fun i j => .int (i * j)) x y H Q ∨ rRep x y H Q
theorem op_mulD : OpR X (binaryOp .Mult) rMulD := OpR.or op_mulA op_rep
theorem od_mul : OpD X G rMulD dMul := by
  intro φ H st dx dy x y W σ Q s rx ry p
  cases rx with
  | int => cases ry with
    | int =>
      obtain ⟨h1, h2⟩ := Post.chk p
      exact .inl ⟨_, _, rfl, rfl, mulOk_c _ _ h1, postNow (W := W) (σ := σ) s h2 _ .int⟩
    | _ => exact p.elim
  | lst hx n z rx => cases ry with
    | int =>
      obtain ⟨h1, h2⟩ := Post.chk p
      obtain ⟨c1, c2, c3⟩ := repOk_c h1
      refine .inr ⟨_, _, _, rfl, rfl, hx, c3, c2, by rw [← rx.length]; exact c1, fun q hq => ?_⟩
      exact Post.made (G := G) (W := W) (σ := σ) s h2 hq _ (rp_lst s hq (rep_rp rx _))
    | _ => exact p.elim
  | _ => exact p.elim
theorem newCell_of {p : Addr} {o : HO} {c : Cell} {Q : D → Store → List Addr → Hp → Prop} (s : StOk X.K G φ H st) (h : Post X.K G W σ φ H (newCell c st) Q) (n : H p = none) (ho : CellOk X.K G φ H c o) :
    Q (.cel st.length) (st ++ [c]) (φ ++ [p]) (upd H p o) ∧ Rp X.K G (φ ++ [p]) (upd H p o) (.cel st.length) (.ref p) := by
  refine ⟨h (φ ++ [p]) _ (ext_cell n) (s.cellNew n ho), .cel ?_⟩
  rw [← s.len, List.getElem?_append_right (Nat.le_refl _)]
  simp
theorem od_repC : OpD X G rRep dRepC := by
  intro φ H st dx dy x y W σ Q s rx ry p
  cases rx with
  | lst hx n z rx => cases ry with
    | int =>
      obtain ⟨h1, h2⟩ := Post.chk p
      obtain ⟨c1, c2, c3⟩ := repOk_c h1
      refine ⟨_, _, _, rfl, rfl, hx, c3, c2, by rw [← rx.length]; exact c1, fun q hq => ?_⟩
      obtain ⟨q1, q2⟩ := newCell_of s h2 hq (.lst (rep_rp rx _))
      exact q1 _ q2
    | _ => exact p.elim
  | _ => exact p.elim
/-! ### the unary minus -/
def dNeg : D → M D
  | .int i => ret (.int (-i))
  | _ => fail
def m1 (f : D → M D) (m : Env' → M D) (ρ : Env') : M D := bnd (m ρ) f
theorem me_neg {a : Expr} {m : Env' → M D} {pos : Pos} (h : ME X G W a m) : ME X G W (.UnaryOp .USub a pos) (m1 dNeg m) := by
  refine peImp (pe_un un_neg h) fun σ H Q ⟨φ, ρ, st, so, p⟩ => ?_
  refine tM_of so (Post.bind p) fun d1 st1 φ1 H1 v1 x1 so1 r1 p1 => ?_
  cases r1 with
  | int => exact ⟨_, rfl, postNow (W := W) (σ := σ) so1.s p1 _ .int⟩
  | _ => exact p1.elim
/-! ### two comparisons: a < b < c -/
def mChain (o1 o2 : D → D → M D) (ma mb mc : Env' → M D) (ρ : Env') : M D := bnd (ma ρ) fun x => bnd (mb ρ) fun y => bnd (bnd (o1 x y) asB) fun k => match k with
  | true => bnd (mc ρ) fun z => o2 y z
  | false => ret (.bl false)
theorem tChain_of {r r' : R2} {o1 o2 : D → D → M D} {ma mb mc : Env' → M D} (h1 : OpD X G r o1) (h2 : OpD X G r' o2) (σ : St) (H : Hp) (Q : VK) (h : tM X.K G W (mChain o1 o2 ma mb mc) σ H Q) : tChain r r' (tM X.K G W ma) (tM X.K G W mb) (tM X.K G W mc) σ H Q := by
  obtain ⟨φ, ρ, st, so, p⟩ := h
  refine tM_of so (Post.bind p) fun d1 st1 φ1 H1 v1 x1 so1 r1 p1 => ?_
  refine tM_of so1 (Post.bind p1) fun d2 st2 φ2 H2 v2 x2 so2 r2 p2 => ?_
  refine h1 φ2 H2 st2 d1 d2 v1 v2 W σ _ so2.s (r1.mono x2) r2 ((Post.bind (Post.bind p2)).imp fun k st3 φ3 H3 x3 s3 p3 v3 r3 => ?_)
  obtain ⟨b, rfl, p4⟩ := asB_of s3 r3 p3
  refine ⟨b, rfl, ?_⟩
  cases b with
  | false => exact iteF (postNow (W := W) (σ := σ) s3 p4 _ .bl)
  | true =>
    refine iteT (tM_of ⟨s3, so2.e.mono x3⟩ (Post.bind p4) fun d5 st5 φ5 H5 v5 x5 so5 r5 p5 => ?_)
    exact h2 φ5 H5 st5 d2 d5 v2 v5 W σ Q so5.s ((r2.mono x3).mono x5) r5 p5
theorem me_chain {op op' : CmpOp} {r r' : R2} {o1 o2 : D → D → M D} {a b c : Expr} {ma mb mc : Env' → M D} {pos : Pos} (ho : OpR X (compareOp op) r) (h1 : OpD X G r o1) (ho' : OpR X (compareOp op') r') (h2 : OpD X G r' o2) (ha : ME X G W a ma) (hb : ME X G W b mb) (hc : ME X G W c mc)
    (hm : lastMarks [op, op'] [b, c] = false := by with_unfolding_all rfl) : ME X G W (.Compare a [op, op'] [b, c] pos) (mChain o1 o2 ma mb mc) :=
  peImp (pe_chain ho ho' ha hb hc hm) fun σ H Q h => tChain_of h1 h2 σ H Q h
theorem mt_chain {op op' : CmpOp} {r r' : R2} {o1 o2 : D → D → M D} {a b c : Expr} {ma mb mc : Env' → M D} {pos : Pos} (ho : OpR X (compareOp op) r) (h1 : OpD X G r o1) (ho' : OpR X (compareOp op') r') (h2 : OpD X G r' o2) (ha : ME X G W a ma) (hb : ME X G W b mb) (hc : ME X G W c mc)
    (hm : lastMarks [op, op'] [b, c] = false := by with_unfolding_all rfl) : MT X G W (.Compare a [op, op'] [b, c] pos) (mB (mChain o1 o2 ma mb mc)) :=
  ptImp (pt_chain ho ho' ha hb hc hm) fun σ H Q ⟨φ, ρ, st, so, p⟩ => by
    refine tChain_of (W := W) h1 h2 σ H _ ⟨φ, ρ, st, so, (Post.bind p).imp fun d st1 φ1 H1 x1 s1 p1 v1 r1 => ?_⟩
    exact asB_of s1 r1 p1
/-! ### equality -/
mutual
def D.eqv : D → D → Bool
  | .non, .non => true
  | .bl a, .bl b => a == b
  | .bl a, .int j => decide ((if a then 1 else 0) = j)
  | .int i, .bl b => decide (i = (if b then 1 else 0))
  | .int i, .int j => decide (i = j)
  | .str x, .str y => decide (x = y)
  | .lst xs, .lst ys => D.eqvL xs ys
  | .tup xs, .tup ys => D.eqvL xs ys
  | _, _ => false
def D.eqvL : List D → List D → Bool
  | [], [] => true
  | x :: xs, y :: ys => D.eqv x y && D.eqvL xs ys
  | _, _ => false
end
mutual
/-- plain data, at most k deep -/
def D.dp : Nat → D → Bool
  | _, .cel _ => false
  | _, .fn _ => false
  | _, .hof => false
  | _, .scr _ => false
  | 0, .tup _ => false
  | 0, .lst _ => false
  | k + 1, .tup xs => D.dpL k xs
  | k + 1, .lst xs => D.dpL k xs
  | _, _ => true
def D.dpL : Nat → List D → Bool
  | _, [] => true
  | k, x :: xs => D.dp k x && D.dpL k xs
end
mutual
def toPy : D → PyData
  | .bl b => .bool b
  | .int i => .int i
  | .str s => .str ⟨s.toArray⟩
  | .tup xs => .tuple (toPyL xs)
  | .lst xs => .list (toPyL xs)
  | _ => .none
def toPyL : List D → List PyData
  | [] => []
  | x :: xs => toPy x :: toPyL xs
end
mutual
theorem dp_of : ∀ {k : Nat} {d : D} {v : V}, D.dp k d = true → Rp X.K G φ H d v → Dp X.K H v (toPy d) ∧ (toPy d).canLay0 = true ∧ (toPy d).depth ≤ k
  | _, _, _, _, .non => ⟨.non, by simp [toPy, PyData.canLay0], by simp [toPy, PyData.depth]⟩
  | _, _, _, _, .bl => ⟨.bl _, by simp [toPy, PyData.canLay0], by simp [toPy, PyData.depth]⟩
  | _, _, _, _, .int => ⟨.int _, by simp [toPy, PyData.canLay0], by simp [toPy, PyData.depth]⟩
  | _, _, _, _, .str h => ⟨.str _, by simpa [toPy, PyData.canLay0, PyData.strOk] using h, by simp [toPy, PyData.depth]⟩
  | 0, .tup _, _, h, _ => by simp [D.dp] at h
  | 0, .lst _, _, h, _ => by simp [D.dp] at h
  | k + 1, .tup xs, _, h, .tup a r => by
    obtain ⟨h1, h2, h3⟩ := dpL_of (by simpa [D.dp] using h) r
    exact ⟨.tup a h1, by simpa [toPy, PyData.canLay0] using h2, by simpa [toPy, PyData.depth] using h3⟩
  | k + 1, .lst xs, _, h, .lst a n z r => by
    obtain ⟨h1, h2, h3⟩ := dpL_of (by simpa [D.dp] using h) r
    exact ⟨.lst (SqL.of a) h1, by simpa [toPy, PyData.canLay0] using h2, by simpa [toPy, PyData.depth] using h3⟩
  | 0, .cel _, _, h, _ | _ + 1, .cel _, _, h, _ => by simp [D.dp] at h
  | 0, .fn _, _, h, _ | _ + 1, .fn _, _, h, _ => by simp [D.dp] at h
  | 0, .hof, _, h, _ | _ + 1, .hof, _, h, _ => by simp [D.dp] at h
  | 0, .scr _, _, h, _ | _ + 1, .scr _, _, h, _ => by simp [D.dp] at h
theorem dpL_of : ∀ {k : Nat} {ds : List D} {vs : List V}, D.dpL k ds = true → RpL X.K G φ H ds vs → DpAll X.K H vs (toPyL ds) ∧ PyData.canLayAll0 (toPyL ds) = true ∧ PyData.depthAll (toPyL ds) ≤ k
  | _, [], _, _, .nil => ⟨.nil, by simp [toPyL, PyData.canLayAll0], by simp [toPyL, PyData.depthAll]⟩
  | k, d :: ds, _, h, .cons r rr => by
    obtain ⟨h1, h2⟩ := Bool.and_eq_true_iff.mp (show (D.dp k d && D.dpL k ds) = true from by simpa [D.dpL] using h)
    obtain ⟨a1, a2, a3⟩ := dp_of h1 r
    obtain ⟨b1, b2, b3⟩ := dpL_of h2 rr
    exact ⟨.cons a1 b1, by simp [toPyL, PyData.canLayAll0, a2, b2], by simp only [toPyL, PyData.depthAll]; omega⟩
end
theorem str_inj {s t : List Nat} (h : (⟨s.toArray⟩ : Str) = ⟨t.toArray⟩) : s = t := by
  have h1 : s.toArray = t.toArray := congrArg Str.cps h
  have h2 : s.toArray.toList = t.toArray.toList := by rw [h1]
  simpa using h2
theorem str_beq (s t : List Nat) : ((⟨s.toArray⟩ : Str) == ⟨t.toArray⟩) = decide (s = t) := by
  by_cases e : s = t
  · subst e
    simp
  · rw [decide_eq_false e]
    exact beq_eq_false_iff_ne.mpr fun q => e (str_inj q)
mutual
theorem eqv_py : ∀ (d e : D) (k : Nat), D.dp k d = true → D.dp k e = true → D.eqv d e = PyData.eqv (toPy d) (toPy e) := fun d e k h1 h2 => by
  cases d <;> cases e <;> cases k <;> first
    | (simp [D.dp] at h1; done)
    | (simp [D.dp] at h2; done)
    | (simp [D.eqv, toPy, PyData.eqv]; done)
    | (rename_i xs ys k; rw [show D.eqv _ _ = D.eqvL xs ys from by simp [D.eqv], eqvL_py xs ys k (by simpa [D.dp] using h1) (by simpa [D.dp] using h2)]; simp [toPy, PyData.eqv]; done)
    | (simp only [D.eqv, toPy, PyData.eqv]; exact (Bool.beq_eq_decide_eq _ _).symm)
    | (simp only [D.eqv, toPy, PyData.eqv]; exact (str_beq _ _).symm)
theorem eqvL_py : ∀ (d e : List D) (k : Nat), D.dpL k d = true → D.dpL k e = true → D.eqvL d e = PyData.eqvAll (toPyL d) (toPyL e)
  | [], [], _, _, _ => by simp [D.eqvL, toPyL, PyData.eqvAll]
  | [], _ :: _, _, _, _ => by simp [D.eqvL, toPyL, PyData.eqvAll]
  | _ :: _, [], _, _, _ => by simp [D.eqvL, toPyL, PyData.eqvAll]
  | x :: xs, y :: ys, k, h1, h2 => by
    obtain ⟨a1, a2⟩ := Bool.and_eq_true_iff.mp (show (D.dp k x && D.dpL k xs) = true from by simpa [D.dpL] using h1)
    obtain ⟨b1, b2⟩ := Bool.and_eq_true_iff.mp (show (D.dp k y && D.dpL k ys) = true from by simpa [D.dpL] using h2)
    rw [show D.eqvL (x :: xs) (y :: ys) = (D.eqv x y && D.eqvL xs ys) from by simp [D.eqvL], eqv_py x y k a1 b1, eqvL_py xs ys k a2 b2]
    simp [toPyL, PyData.eqvAll]
end
/-- a list that changes is looked at as it stands -/
def deref : D → M D
  | .cel n => fun st => (match st[n]? with
    | some (.lst xs) => .ok (.lst xs) st
    | _ => .bad)
  | d => ret d
def dEq (x y : D) : M D := bnd (deref x) fun a => bnd (deref y) fun b => chk (D.dp 60 a && D.dp 60 b) (ret (.bl (D.eqv a b)))
def dNe (x y : D) : M D := bnd (deref x) fun a => bnd (deref y) fun b => chk (D.dp 60 a && D.dp 60 b) (ret (.bl (!D.eqv a b)))
theorem deref_of {x : D} {v : V} {Q : D → Store → List Addr → Hp → Prop} (s : StOk X.K G φ H st) (r : Rp X.K G φ H x v) (p : Post X.K G W σ φ H (deref x st) Q) :
    ∃ d, Q d st φ H ∧ ∀ k, D.dp k d = true → Dp X.K H v (toPy d) ∧ (toPy d).canLay0 = true ∧ (toPy d).depth ≤ k := by
  cases r with
  | @cel n a h =>
    have p' : Post X.K G W σ φ H (match st[n]? with
      | some (.lst xs) => (.ok (.lst xs) st : R D)
      | _ => .bad) Q := p
    cases e : st[n]? with
    | none => rw [e] at p'; exact p'.elim
    | some c =>
      rw [e] at p'
      cases c with
      | lst xs =>
        obtain ⟨o, e1, e2⟩ := s.cell n _ a e h
        cases e2 with
        | lst rl =>
          refine ⟨_, postNow (W := W) (σ := σ) s p', fun k hk => ?_⟩
          cases k with
          | zero => simp [D.dp] at hk
          | succ k =>
            obtain ⟨h1, h2, h3⟩ := dpL_of (X := X) (by simpa [D.dp] using hk) rl
            exact ⟨.lst (SqL.of e1) h1, by simpa [toPy, PyData.canLay0] using h2, by simpa [toPy, PyData.depth] using h3⟩
      | dct _ => exact p'.elim
      | dctL _ => exact p'.elim
      | ins _ _ => exact p'.elim
  | non => exact ⟨_, postNow (W := W) (σ := σ) s p, fun k hk => dp_of (X := X) (G := G) (φ := φ) hk .non⟩
  | bl => exact ⟨_, postNow (W := W) (σ := σ) s p, fun k hk => dp_of (X := X) (G := G) (φ := φ) hk .bl⟩
  | int => exact ⟨_, postNow (W := W) (σ := σ) s p, fun k hk => dp_of (X := X) (G := G) (φ := φ) hk .int⟩
  | str h => exact ⟨_, postNow (W := W) (σ := σ) s p, fun k hk => dp_of (X := X) (G := G) (φ := φ) hk (.str h)⟩
  | tup a b => exact ⟨_, postNow (W := W) (σ := σ) s p, fun k hk => dp_of (X := X) (G := G) hk (.tup a b)⟩
  | lst a b c d => exact ⟨_, postNow (W := W) (σ := σ) s p, fun k hk => dp_of (X := X) (G := G) hk (.lst a b c d)⟩
  | fn h => exact ⟨_, postNow (W := W) (σ := σ) s p, fun k hk => by cases k <;> simp [D.dp] at hk⟩
  | hof h => exact ⟨_, postNow (W := W) (σ := σ) s p, fun k hk => by cases k <;> simp [D.dp] at hk⟩
  | scr a b => exact ⟨_, postNow (W := W) (σ := σ) s p, fun k hk => by cases k <;> simp [D.dp] at hk⟩
theorem shaped_of {d : PyData} (h1 : d.canLay0 = true) (h2 : d.depth ≤ 60) : SeqAt.shaped d = true := by
  unfold SeqAt.shaped
  rw [h1, Bool.true_and]
  exact decide_eq_true (by omega)
theorem od_eq : OpD X G (rEqD X.K) dEq := by
  intro φ H st dx dy x y W σ Q s rx ry p
  obtain ⟨a, p1, qa⟩ := deref_of s rx (Post.bind p)
  obtain ⟨b, p2, qb⟩ := deref_of s ry (Post.bind p1)
  obtain ⟨c, p3⟩ := Post.chk p2
  obtain ⟨c1, c2⟩ := Bool.and_eq_true_iff.mp c
  obtain ⟨a1, a2, a3⟩ := qa 60 c1
  obtain ⟨b1, b2, b3⟩ := qb 60 c2
  refine ⟨_, _, a1, b1, shaped_of a2 a3, shaped_of b2 b3, ?_⟩
  rw [← eqv_py a b 60 c1 c2]
  exact postNow (W := W) (σ := σ) s p3 _ .bl
theorem od_ne : OpD X G (rNeD X.K) dNe := by
  intro φ H st dx dy x y W σ Q s rx ry p
  obtain ⟨a, p1, qa⟩ := deref_of s rx (Post.bind p)
  obtain ⟨b, p2, qb⟩ := deref_of s ry (Post.bind p1)
  obtain ⟨c, p3⟩ := Post.chk p2
  obtain ⟨c1, c2⟩ := Bool.and_eq_true_iff.mp c
  obtain ⟨a1, a2, a3⟩ := qa 60 c1
  obtain ⟨b1, b2, b3⟩ := qb 60 c2
  refine ⟨_, _, a1, b1, shaped_of a2 a3, shaped_of b2 b3, ?_⟩
  rw [← eqv_py a b 60 c1 c2]
  exact postNow (W := W) (σ := σ) s p3 _ .bl
/-! ### is None -/
def dIsN : D → M D
  | .non => ret (.bl true)
  | _ => ret (.bl false)
def dNotN : D → M D
  | .non => ret (.bl false)
  | _ => ret (.bl true)
theorem isN_v {d : D} {v : V} (r : Rp X.K G φ H d v) : dIsN d st = .ok (.bl (decide (v = .non))) st ∧ dNotN d st = .ok (.bl (!decide (v = .non))) st := by
  cases r <;> exact ⟨rfl, rfl⟩
theorem me_isN {a : Expr} {m : Env' → M D} {j : Nat} {pos pos' : Pos} (h : ME X G W a m) : ME X G W (.Compare a [.Is] [.Constant .none j pos'] pos) (m1 dIsN m) := by
  refine peImp (pe_cmp (pc_isN h) rfl) fun σ H Q ⟨φ, ρ, st, so, p⟩ => ?_
  refine tM_of so (Post.bind p) fun d1 st1 φ1 H1 v1 x1 so1 r1 p1 => ?_
  rw [(isN_v r1).1] at p1
  exact p1 φ1 H1 (Ext.refl _ _) so1.s _ .bl
theorem me_notN {a : Expr} {m : Env' → M D} {j : Nat} {pos pos' : Pos} (h : ME X G W a m) : ME X G W (.Compare a [.IsNot] [.Constant .none j pos'] pos) (m1 dNotN m) := by
  refine peImp (pe_cmp (pc_notN h) rfl) fun σ H Q ⟨φ, ρ, st, so, p⟩ => ?_
  refine tM_of so (Post.bind p) fun d1 st1 φ1 H1 v1 x1 so1 r1 p1 => ?_
  rw [(isN_v r1).2] at p1
  exact p1 φ1 H1 (Ext.refl _ _) so1.s _ .bl
end
end DL
namespace DL
open PySem PySem.Spec PyProof.Rows L2
/-! ### in -/
def D.flat : D → Bool
  | .non => true
  | .bl _ => true
  | .int _ => true
  | .str _ => true
  | _ => false
def isIn (x : D) (xs : List D) : Bool := xs.any fun z => D.eqv z x
def dInG (neg : Bool) (x y : D) : M D := match y with
  | .tup xs => chk (D.flat x && xs.all D.flat) (ret (.bl (neg ^^ isIn x xs)))
  | .str s => (match x with
    | .str t => (match t with
      | [c] => ret (.bl (neg ^^ decide (c ∈ s)))
      | _ => fail)
    | _ => fail)
  | y => bnd (lLst y) fun xs => chk (D.dp 60 x && D.dpL 59 xs) (ret (.bl (neg ^^ isIn x xs)))
abbrev dIn : D → D → M D := dInG false
abbrev dNotIn : D → D → M D := dInG true
def rInA (K : PySem.W.Frag) (neg : Bool) : R2 := fun x y H Q => rIn K neg x y H Q ∨ (∃ (c : Nat) (z : Str), x = .str ⟨#[c]⟩ ∧ y = .str z ∧ Q (.bl (neg ^^ decide (c ∈ z.cps.toList))) H) ∨
  (∃ d ds, Dp K H x d ∧ Dp K H y (.list ds) ∧ SeqAt.shaped d = true ∧ SeqAt.shaped (.list ds) = true ∧ Q (.bl (neg ^^ ds.any fun z => PyData.eqv z d)) H)
section
variable {X : Cx} {G : Gx} {W : WX} {σ : St} {φ : List Addr} {H : Hp} {st : Store}
theorem op_inA (hu : X.A.units + 65 < cLine) : OpR X (compareOp .In) (rInA X.K false) := by
  refine OpR.or op_in_seq (OpR.or ?_ ?_)
  · intro pins s σ H x y v u Q I rx ry ⟨c, z, h1, h2, q⟩
    exact op_in_sign pins s σ H x y v u Q I rx ry ⟨c, z, h1, h2, by simpa using q⟩
  · intro pins s σ H x y v u Q I rx ry ⟨d, ds, h1, h2, h3, h4, q⟩
    exact op_inD hu pins s σ H x y v u Q I rx ry ⟨d, ds, h1, h2, h3, h4, by simpa using q⟩
theorem op_notInA (hu : X.A.units + 65 < cLine) : OpR X (compareOp .NotIn) (rInA X.K true) := by
  refine OpR.or op_notIn_seq (OpR.or ?_ ?_)
  · intro pins s σ H x y v u Q I rx ry ⟨c, z, h1, h2, q⟩
    exact op_notIn_sign pins s σ H x y v u Q I rx ry ⟨c, z, h1, h2, by simpa using q⟩
  · intro pins s σ H x y v u Q I rx ry ⟨d, ds, h1, h2, h3, h4, q⟩
    exact op_notInD hu pins s σ H x y v u Q I rx ry ⟨d, ds, h1, h2, h3, h4, by simpa using q⟩
theorem flat_v {d : D} {v : V} (h : D.flat d = true) (r : Rp X.K G φ H d v) : flatV v = true := by
  cases r <;> first | rfl | (simp [D.flat] at h)
theorem flatL_v : ∀ {ds : List D} {vs : List V}, ds.all D.flat = true → RpL X.K G φ H ds vs → vs.all flatV = true
  | [], _, _, .nil => rfl
  | d :: ds, _, h, .cons r rr => by
    obtain ⟨h1, h2⟩ := Bool.and_eq_true_iff.mp (show (D.flat d && ds.all D.flat) = true from h)
    rw [List.all_cons, flat_v h1 r, flatL_v h2 rr]
    rfl
theorem eqv_v {d e : D} {v u : V} (h : D.flat d = true) (h' : D.flat e = true) (r : Rp X.K G φ H d v) (r' : Rp X.K G φ H e u) : D.eqv d e = eqV v u := by
  cases r <;> first
    | (simp [D.flat] at h; done)
    | (cases r' <;> first
      | (simp [D.flat] at h'; done)
      | (simp [D.eqv, eqV]; done)
      | (simp only [D.eqv, eqV]; exact (Bool.beq_eq_decide_eq _ _).symm)
      | (simp only [D.eqv, eqV]; exact (str_beq _ _).symm))
theorem isIn_v {x : D} {v : V} (h : D.flat x = true) (r : Rp X.K G φ H x v) : ∀ {ds : List D} {vs : List V}, ds.all D.flat = true → RpL X.K G φ H ds vs → isIn x ds = inV v vs
  | [], _, _, .nil => rfl
  | d :: ds, _, hd, .cons (v := y) (vs := ys) r' rr => by
    obtain ⟨h1, h2⟩ := Bool.and_eq_true_iff.mp (show (D.flat d && ds.all D.flat) = true from hd)
    have ih := isIn_v h r h2 rr
    have e : isIn x (d :: ds) = (D.eqv d x || isIn x ds) := rfl
    have e2 : inV v (y :: ys) = (eqV y v || inV v ys) := rfl
    rw [e, e2, ih, eqv_v h1 h r' r]
theorem isIn_py {x : D} (k : Nat) (h : D.dp k x = true) : ∀ {ds : List D}, D.dpL k ds = true → isIn x ds = (toPyL ds).any fun z => PyData.eqv z (toPy x)
  | [], _ => by simp [isIn, toPyL]
  | d :: ds, hd => by
    obtain ⟨h1, h2⟩ := Bool.and_eq_true_iff.mp (show (D.dp k d && D.dpL k ds) = true from by simpa [D.dpL] using hd)
    have ih := isIn_py k h h2
    have e : isIn x (d :: ds) = (D.eqv d x || isIn x ds) := rfl
    rw [e, ih, eqv_py d x k h1 h]
    simp [toPyL]
mutual
theorem dp_up : ∀ {k : Nat} {d : D}, D.dp k d = true → D.dp (k + 1) d = true
  | _, .non, _ => by simp [D.dp]
  | _, .bl _, _ => by simp [D.dp]
  | _, .int _, _ => by simp [D.dp]
  | _, .str _, _ => by simp [D.dp]
  | 0, .tup _, h => by simp [D.dp] at h
  | 0, .lst _, h => by simp [D.dp] at h
  | k + 1, .tup xs, h => by
    simp only [D.dp] at h ⊢
    exact dpL_up h
  | k + 1, .lst xs, h => by
    simp only [D.dp] at h ⊢
    exact dpL_up h
  | 0, .cel _, h | _ + 1, .cel _, h => by simp [D.dp] at h
  | 0, .fn _, h | _ + 1, .fn _, h => by simp [D.dp] at h
  | 0, .hof, h | _ + 1, .hof, h => by simp [D.dp] at h
  | 0, .scr _, h | _ + 1, .scr _, h => by simp [D.dp] at h
theorem dpL_up : ∀ {k : Nat} {ds : List D}, D.dpL k ds = true → D.dpL (k + 1) ds = true
  | _, [], _ => by simp [D.dpL]
  | k, d :: ds, h => by
    obtain ⟨h1, h2⟩ := Bool.and_eq_true_iff.mp (show (D.dp k d && D.dpL k ds) = true from by simpa [D.dpL] using h)
    simp [D.dpL, dp_up h1, dpL_up h2]
end
theorem dIn_list {neg : Bool} {dx y : D} {x v : V} {Q : VK} (s : StOk X.K G φ H st) (rx : Rp X.K G φ H dx x) (ry : Rp X.K G φ H y v)
    (p : Post X.K G W σ φ H (bnd (lLst y) (fun xs => chk (D.dp 60 dx && D.dpL 59 xs) (ret (.bl (neg ^^ isIn dx xs)))) st) fun d _ φ' H' => ∀ v, Rp X.K G φ' H' d v → Q v H') : rInA X.K neg x v H Q := by
  obtain ⟨a, vs, xs, rfl, h1, r1, p1⟩ := lLst_of s ry (Post.bind p)
  obtain ⟨c, p2⟩ := Post.chk p1
  obtain ⟨c1, c2⟩ := Bool.and_eq_true_iff.mp c
  obtain ⟨a1, a2, a3⟩ := dp_of (X := X) c1 rx
  obtain ⟨b1, b2, b3⟩ := dpL_of (X := X) c2 r1
  refine .inr (.inr ⟨_, _, a1, .lst (SqL.of h1) b1, shaped_of a2 a3, shaped_of (by simpa [PyData.canLay0] using b2) (by simp only [PyData.depth]; omega), ?_⟩)
  rw [← isIn_py 60 c1 (dpL_up c2)]
  exact postNow (W := W) (σ := σ) s p2 _ .bl
theorem od_inG (neg : Bool) : OpD X G (rInA X.K neg) (dInG neg) := by
  intro φ H st dx dy x y W σ Q s rx ry p
  cases ry with
  | tup hs rl =>
    obtain ⟨c, p1⟩ := Post.chk p
    obtain ⟨c1, c2⟩ := Bool.and_eq_true_iff.mp c
    refine .inl ⟨_, _, rfl, .inr hs, flat_v c1 rx, flatL_v c2 rl, ?_⟩
    have q := postNow (W := W) (σ := σ) s p1 _ .bl
    rw [isIn_v c1 rx c2 rl] at q
    cases neg with
    | false => simpa using q
    | true => simpa using q
  | str hy =>
    cases rx with
    | @str t ht =>
      cases t with
      | nil => exact p.elim
      | cons c t =>
        cases t with
        | nil => exact .inr (.inl ⟨c, _, rfl, rfl, by simpa using postNow (W := W) (σ := σ) s p _ .bl⟩)
        | cons _ _ => exact p.elim
    | _ => exact p.elim
  | lst a b c d => exact dIn_list s rx (.lst a b c d) p
  | cel h => exact dIn_list s rx (.cel h) p
  | non => exact dIn_list s rx .non p
  | bl => exact dIn_list s rx .bl p
  | int => exact dIn_list s rx .int p
  | fn h => exact dIn_list s rx (.fn h) p
  | hof h => exact dIn_list s rx (.hof h) p
  | scr a b => exact dIn_list s rx (.scr a b) p
/-! ### an item -/
def atD (xs : List D) (i : Int) : M D := match ixN xs.length i with
  | some j => (match xs[j]? with
    | some d => ret d
    | none => fail)
  | none => fail
def dIx (x y : D) : M D := match y with
  | .int i => (match x with
    | .tup xs => atD xs i
    | .scr xs => atD xs i
    | .str s => chk (decide (s.length ≤ LIM)) (match ixN s.length i with
      | some j => (match s[j]? with
        | some c => ret (.str [c])
        | none => fail)
      | none => fail)
    | x => bnd (lLst x) fun xs => atD xs i)
  | _ => fail
theorem atD_of {xs : List D} {vs : List V} {i : Int} {Q : D → Store → List Addr → Hp → Prop} (s : StOk X.K G φ H st) (r : RpL X.K G φ H xs vs) (p : Post X.K G W σ φ H (atD xs i st) Q) : ∃ d v, atI vs i = some v ∧ Rp X.K G φ H d v ∧ Q d st φ H := by
  unfold atD at p
  cases e : ixN xs.length i with
  | none => rw [e] at p; exact p.elim
  | some j =>
    rw [e] at p
    cases e2 : xs[j]? with
    | none => simp only [e2] at p; exact p.elim
    | some d =>
      simp only [e2] at p
      obtain ⟨v, h1, h2⟩ := r.get e2
      refine ⟨d, v, ?_, h2, postNow (W := W) (σ := σ) s p⟩
      unfold atI
      rw [← r.length, e]
      exact h1
theorem od_ix : OpD X G (rIx X.K) dIx := by
  intro φ H st dx dy x y W σ Q s rx ry p
  cases ry with
  | int =>
    rename_i i0
    have lw : ∀ {dx : D} {x : V}, Rp X.K G φ H dx x → Post X.K G W σ φ H (bnd (lLst dx) (fun xs => atD xs i0) st) (fun d _ φ' H' => ∀ v, Rp X.K G φ' H' d v → Q v H') → rIx X.K x (.int i0) H Q := fun rx p => by
      obtain ⟨a, vs, xs, rfl, h1, r1, p1⟩ := lLst_of s rx (Post.bind p)
      obtain ⟨d, v, h2, h3, h4⟩ := atD_of s r1 p1
      exact .inl ⟨_, _, _, _, rfl, rfl, SqL.of h1, h2, h4 v h3⟩
    cases rx with
    | tup hs rl =>
      obtain ⟨d, v, h2, h3, h4⟩ := atD_of s rl p
      exact .inr (.inl ⟨_, _, _, _, rfl, rfl, hs, h2, h4 v h3⟩)
    | @scr xs a vs hs rl =>
      obtain ⟨d, v, h2, h3, h4⟩ := atD_of s rl p
      exact .inl ⟨_, _, _, _, rfl, rfl, hs.elim (fun ⟨o, h⟩ => .inl (.inr ⟨o, h⟩)) (fun h => h H), h2, h4 v h3⟩
    | @str z hz =>
      obtain ⟨c, p1⟩ := Post.chk p
      cases e : ixN z.length i0 with
      | none => simp only [e] at p1; exact p1.elim
      | some j =>
        simp only [e] at p1
        cases e2 : z[j]? with
        | none => simp only [e2] at p1; exact p1.elim
        | some c' =>
          simp only [e2] at p1
          refine .inr (.inr ⟨_, _, c', rfl, rfl, by rw [str_len]; exact lim_line c, ?_, ?_⟩)
          · unfold atI
            rw [show (⟨z.toArray⟩ : Str).cps.toList = z from by simp, e]
            exact e2
          · refine postNow (W := W) (σ := σ) s p1 _ (.str ?_)
            have := List.all_eq_true.mp hz c' (List.mem_of_getElem? e2)
            simpa using this
    | lst a b c d => exact lw (.lst a b c d) p
    | cel h => exact lw (.cel h) p
    | non => exact lw .non p
    | bl => exact lw .bl p
    | int => exact lw .int p
    | fn h => exact lw (.fn h) p
    | hof h => exact lw (.hof h) p
  | _ => exact p.elim
theorem me_ix {a b : Expr} {ma mb : Env' → M D} {pos : Pos} (ha : ME X G W a ma) (hb : ME X G W b mb) (hx : PlainIx b := by intro _ _; rfl) : ME X G W (.Subscript a b pos) (m2 dIx ma mb) :=
  peImp (pe_ix ix_seq ha hb hx) fun σ H Q h => tOp_of od_ix σ H Q h
/-! ### slices -/
abbrev MO := Env' → M (Option Int)
def tMO (K : PySem.W.Frag) (G : Gx) (W : WX) (m : MO) : TO := fun σ H Q => ∃ φ ρ st, SOk K G φ H σ ρ st ∧ Post K G W σ φ H (m ρ st) fun o _ _ H' => Q o H'
theorem poImp {e : Option Expr} {t t' : TO} (h : PO X e t) (i : ∀ σ H Q, t' σ H Q → t σ H Q) : PO X e t' := ⟨fun pins s σ H Q I hw => h.run pins s σ H Q I (i σ H Q hw)⟩
def oNo : MO := fun _ => ret none
def oAt (m : Env' → M D) : MO := fun ρ => bnd (m ρ) fun d => match d with
  | .int i => ret (some i)
  | _ => fail
theorem mo_none : PO X none (tMO X.K G W oNo) := poImp po_none fun σ H Q ⟨φ, ρ, st, so, p⟩ => postNow (W := W) (σ := σ) so.s p
theorem mo_some {e : Expr} {m : Env' → M D} (h : ME X G W e m) : PO X (some e) (tMO X.K G W (oAt m)) := poImp (po_some h) fun σ H Q ⟨φ, ρ, st, so, p⟩ =>
  tM_of so (Post.bind p) fun d1 st1 φ1 H1 v1 x1 so1 r1 p1 => by
    cases r1 with
    | int => exact ⟨_, rfl, postNow (W := W) (σ := σ) so1.s p1⟩
    | _ => exact p1.elim
def cut {α : Type} (xs : List α) (lo hi : Option Int) : List α := (xs.drop (HT.sIx xs.length 0 lo)).take (HT.sIx xs.length xs.length hi - HT.sIx xs.length 0 lo)
def dCut (x : D) (lo hi : Option Int) : M D := match x with
  | .tup xs => ret (.tup (cut xs lo hi))
  | .str s => chk (decide (s.length ≤ LIM)) (ret (.str (cut s lo hi)))
  | x => bnd (lLst x) fun xs => ret (.lst (cut xs lo hi))
def mCut (m : Env' → M D) (lo hi : MO) (ρ : Env') : M D := bnd (m ρ) fun x => bnd (lo ρ) fun l => bnd (hi ρ) fun h => dCut x l h
def rSlD (K : PySem.W.Frag) : V → Option Int → Option Int → Hp → VK → Prop := fun x lo hi H Q => rSlL K x lo hi H Q ∨ rSlA K x lo hi H Q ∨ rSlS x lo hi H Q
theorem sl_D : SlR X (rSlD X.K) := SlR.or sl_list (SlR.or sl_tupA sl_str)
theorem cut_rp {xs : List D} {vs : List V} (r : RpL X.K G φ H xs vs) (lo hi : Option Int) : RpL X.K G φ H (cut xs lo hi) (cutV vs lo hi) := by
  unfold cut cutV
  rw [r.length]
  exact (r.drop _).take _
theorem dCut_of {dx : D} {x : V} {lo hi : Option Int} {Q : VK} (s : StOk X.K G φ H st) (rx : Rp X.K G φ H dx x) (p : Post X.K G W σ φ H (dCut dx lo hi st) fun d _ φ' H' => ∀ v, Rp X.K G φ' H' d v → Q v H') : rSlD X.K x lo hi H Q := by
  have lw : ∀ {dx : D} {x : V}, Rp X.K G φ H dx x → Post X.K G W σ φ H (bnd (lLst dx) (fun xs => ret (.lst (cut xs lo hi))) st) (fun d _ φ' H' => ∀ v, Rp X.K G φ' H' d v → Q v H') → rSlD X.K x lo hi H Q := fun rx p => by
    obtain ⟨a, vs, xs, rfl, h1, r1, p1⟩ := lLst_of s rx (Post.bind p)
    exact .inl ⟨_, _, rfl, SqL.of h1, fun q hq => Post.made (G := G) (W := W) (σ := σ) s p1 hq _ (rp_lst s hq (cut_rp r1 lo hi))⟩
  cases rx with
  | @tup xs a vs hs rl =>
    refine .inr (.inl ⟨_, _, rfl, hs, fun e => ?_, fun _ q hq => ?_⟩)
    · have ec : cut xs lo hi = xs := by
        unfold cut
        rw [rl.length, e.1, e.2, List.drop_zero, Nat.sub_zero, ← rl.length, List.take_length]
      have p' : Post X.K G W σ φ H (ret (.tup (cut xs lo hi)) st) (fun d _ φ' H' => ∀ v, Rp X.K G φ' H' d v → Q v H') := p
      rw [ec] at p'
      exact postNow (W := W) (σ := σ) s p' _ (.tup hs rl)
    · exact Post.made (G := G) (W := W) (σ := σ) s p hq _ (rp_tup hq (cut_rp rl lo hi))
  | @str z hz =>
    obtain ⟨c, p1⟩ := Post.chk p
    refine .inr (.inr ⟨_, rfl, by rw [str_len]; exact lim_line c, ?_⟩)
    have e : cutS (⟨z.toArray⟩ : Str) lo hi = ⟨(cut z lo hi).toArray⟩ := by
      unfold cutS cut
      rw [str_len]
    rw [e]
    refine postNow (W := W) (σ := σ) s p1 _ (.str ?_)
    refine List.all_eq_true.mpr fun c hc => List.all_eq_true.mp hz c ?_
    unfold cut at hc
    exact List.mem_of_mem_drop (List.mem_of_mem_take hc)
  | lst a b c d => exact lw (.lst a b c d) p
  | cel h => exact lw (.cel h) p
  | non => exact lw .non p
  | bl => exact lw .bl p
  | int => exact lw .int p
  | fn h => exact lw (.fn h) p
  | hof h => exact lw (.hof h) p
  | scr a b => exact lw (.scr a b) p
theorem me_cut {e : Expr} {m : Env' → M D} {lo hi : Option Expr} {ol oh : MO} {pos p2 : Pos} (h : ME X G W e m) (hl : PO X lo (tMO X.K G W ol)) (hh : PO X hi (tMO X.K G W oh)) : ME X G W (.Subscript e (.Slice lo hi none p2) pos) (mCut m ol oh) := by
  refine peImp (pe_slice sl_D h hl hh) fun σ H Q ⟨φ, ρ, st, so, p⟩ => ?_
  refine tM_of so (Post.bind p) fun d1 st1 φ1 H1 v1 x1 so1 r1 p1 => ?_
  refine ⟨φ1, ρ, st1, so1, (Post.bind p1).imp fun l st2 φ2 H2 x2 s2 p2 => ?_⟩
  refine ⟨φ2, ρ, st2, ⟨s2, so1.e.mono x2⟩, (Post.bind p2).imp fun u st3 φ3 H3 x3 s3 p3 => ?_⟩
  exact dCut_of (W := W) (σ := σ) s3 ((r1.mono x2).mono x3) p3
/-! ### calls of the built-in -/
def CallD (X : Cx) (G : Gx) (r : List V → Hp → VK → Prop) (f : List D → M D) : Prop := ∀ φ H st ds vs (W : WX) (σ : St) (Q : VK), StOk X.K G φ H st → RpL X.K G φ H ds vs →
  Post X.K G W σ φ H (f ds st) (fun d _ φ' H' => ∀ v, Rp X.K G φ' H' d v → Q v H') → r vs H Q
def mFn (f : List D → M D) (ms : Env' → M (List D)) (ρ : Env') : M D := bnd (ms ρ) f
section
variable {r : List V → Hp → VK → Prop} {f : List D → M D} {ms : Env' → M (List D)} {id T : String} {x : Str} {e : Expr} {es : List Expr} {p pos : Pos}
theorem tCB_of (hd : CallD X G r f) (σ : St) (H : Hp) (Q : VK) (h : tM X.K G W (mFn f ms) σ H Q) : tCB r (tML X.K G W ms) σ H Q := by
  obtain ⟨φ, ρ, st, so, p⟩ := h
  refine tML_of so (Post.bind p) fun ds st1 φ1 H1 vs x1 so1 r1 p1 => ?_
  exact hd φ1 H1 st1 ds vs W σ Q so1.s r1 p1
theorem me_cb (hc : CallR X (.builtin id) r) (hd : CallD X G r f) (hm : X.mg x = none) (hv : bootBuiltins x = some (.builtin id)) (ha : MA X G W (e :: es) ms) (hg : Gl X x := by rfl) (hn : x ≠ "__name__" := by decide) (hdb : (x == ("__debug__" : Str)) = false := by decide)
    (he : starEach (e :: es) X.env = (false, eval e X.env) :: starEach es X.env := by rfl) (hpl : (backTo pos (starEach es X.env)).any (·.1) = false := by rfl) : ME X G W (.Call (.Name x p) (e :: es) [] pos) (mFn f ms) :=
  peImp (pe_callB hc hg hm hv ha hn hdb he hpl) fun σ H Q h => tCB_of hd σ H Q h
theorem me_ct (hc : CallR X (.type T) r) (hd : CallD X G r f) (hm : X.mg x = none) (hv : bootBuiltins x = some (.type T)) (ha : MA X G W (e :: es) ms) (hg : Gl X x := by rfl) (hn : x ≠ "__name__" := by decide) (hdb : (x == ("__debug__" : Str)) = false := by decide)
    (he : starEach (e :: es) X.env = (false, eval e X.env) :: starEach es X.env := by rfl) (hpl : (backTo pos (starEach es X.env)).any (·.1) = false := by rfl) : ME X G W (.Call (.Name x p) (e :: es) [] pos) (mFn f ms) :=
  peImp (pe_callTy hc hg hm hv ha hn hdb he hpl) fun σ H Q h => tCB_of hd σ H Q h
end
end
def f1 (g : D → M D) : List D → M D
  | [x] => g x
  | _ => fail
def f2 (g : D → D → M D) : List D → M D
  | [x, y] => g x y
  | _ => fail
def dAbs : D → M D
  | .int i => ret (.int (if i < 0 then -i else i))
  | _ => fail
def dInt : D → M D
  | .int i => ret (.int i)
  | .bl b => ret (.int (if b then 1 else 0))
  | _ => fail
def dMax (x y : D) : M D := i2 (fun i j => ret (.int (if j > i then j else i))) x y
def dMin (x y : D) : M D := i2 (fun i j => ret (.int (if j < i then j else i))) x y
def dLen : D → M D
  | .tup xs => ret (.int xs.length)
  | .scr xs => ret (.int xs.length)
  | .str s => chk (decide (s.length ≤ LIM)) (ret (.int s.length))
  | x => bnd (lLst x) fun xs => ret (.int xs.length)
def dTuple : D → M D
  | .tup xs => ret (.tup xs)
  | x => bnd (lLst x) fun xs => ret (.tup xs)
def dList : D → M D
  | .tup xs => ret (.lst xs)
  | x => bnd (lLst x) fun xs => ret (.lst xs)
def intsD : List D → Option (List Int)
  | [] => some []
  | .int i :: r => (intsD r).map (i :: ·)
  | _ => none
def bls : List D → Option (List Bool)
  | [] => some []
  | .bl i :: r => (bls r).map (i :: ·)
  | _ => none
def strs' : List D → Option (List (List Nat))
  | [] => some []
  | .str i :: r => (strs' r).map (i :: ·)
  | _ => none
def dSum (x : D) : M D := bnd (lLst x) fun xs => match intsD xs with
  | some ns => ret (.int ns.sum)
  | none => fail
def dAll (x : D) : M D := bnd (lLst x) fun xs => match bls xs with
  | some bs => ret (.bl (bs.all id))
  | none => fail
def dAny (x : D) : M D := bnd (lLst x) fun xs => match bls xs with
  | some bs => ret (.bl (bs.any id))
  | none => fail
section
variable {X : Cx} {G : Gx} {W : WX} {σ : St} {φ : List Addr} {H : Hp} {st : Store}
theorem ints_v : ∀ {ds : List D} {vs : List V} {ns : List Int}, RpL X.K G φ H ds vs → intsD ds = some ns → vs = ns.map V.int
  | [], _, _, .nil, h => by
    cases h
    rfl
  | d :: ds, _, ns, .cons r rr, h => by
    cases r with
    | int =>
      simp only [intsD, Option.map_eq_some_iff] at h
      obtain ⟨ms, e, rfl⟩ := h
      rw [ints_v rr e]
      rfl
    | _ => simp [intsD] at h
theorem bls_v : ∀ {ds : List D} {vs : List V} {ns : List Bool}, RpL X.K G φ H ds vs → bls ds = some ns → vs = ns.map V.bl
  | [], _, _, .nil, h => by
    cases h
    rfl
  | d :: ds, _, ns, .cons r rr, h => by
    cases r with
    | bl =>
      simp only [bls, Option.map_eq_some_iff] at h
      obtain ⟨ms, e, rfl⟩ := h
      rw [bls_v rr e]
      rfl
    | _ => simp [bls] at h
def mkS (s : List Nat) : Str := ⟨s.toArray⟩
theorem strs_v : ∀ {ds : List D} {vs : List V} {ns : List (List Nat)}, RpL X.K G φ H ds vs → strs' ds = some ns → vs = (ns.map mkS).map V.str ∧ ∀ s ∈ ns, (s.all fun c => decide (c < 0x110000)) = true
  | [], _, _, .nil, h => by
    cases h
    exact ⟨rfl, fun _ h => nomatch h⟩
  | d :: ds, _, ns, .cons r rr, h => by
    cases r with
    | str hs =>
      simp only [strs', Option.map_eq_some_iff] at h
      obtain ⟨ms, e, rfl⟩ := h
      obtain ⟨h1, h2⟩ := strs_v rr e
      rw [h1]
      exact ⟨rfl, fun s m => (List.mem_cons.mp m).elim (fun e => by rw [e]; exact hs) (h2 s)⟩
    | _ => simp [strs'] at h
theorem cd1 {g : D → M D} {r : List V → Hp → VK → Prop} (h : ∀ φ H st d v (W : WX) (σ : St) (Q : VK), StOk X.K G φ H st → Rp X.K G φ H d v → Post X.K G W σ φ H (g d st) (fun d _ φ' H' => ∀ v, Rp X.K G φ' H' d v → Q v H') → r [v] H Q) : CallD X G r (f1 g) := by
  intro φ H st ds vs W σ Q s rl p
  cases rl with
  | nil => exact p.elim
  | cons r1 rr => cases rr with
    | nil => exact h φ H st _ _ W σ Q s r1 p
    | cons _ _ => exact p.elim
theorem cd2 {g : D → D → M D} {r : List V → Hp → VK → Prop} (h : ∀ φ H st d v e u (W : WX) (σ : St) (Q : VK), StOk X.K G φ H st → Rp X.K G φ H d v → Rp X.K G φ H e u → Post X.K G W σ φ H (g d e st) (fun d _ φ' H' => ∀ v, Rp X.K G φ' H' d v → Q v H') → r [v, u] H Q) : CallD X G r (f2 g) := by
  intro φ H st ds vs W σ Q s rl p
  cases rl with
  | nil => exact p.elim
  | cons r1 rr => cases rr with
    | nil => exact p.elim
    | cons r2 rr => cases rr with
      | nil => exact h φ H st _ _ _ _ W σ Q s r1 r2 p
      | cons _ _ => exact p.elim
theorem cd_abs : CallD X G (fun xs H Q => ∃ i, xs = [.int i] ∧ Q (.int (if i < 0 then -i else i)) H) (f1 dAbs) := cd1 fun φ H st d v W σ Q s r p => by
  cases r with
  | int => exact ⟨_, rfl, postNow (W := W) (σ := σ) s p _ .int⟩
  | _ => exact p.elim
theorem cd_int : CallD X G (fun xs H Q => (∃ i, xs = [.int i] ∧ Q (.int i) H) ∨ ∃ k, xs = [.bl k] ∧ Q (.int (if k then 1 else 0)) H) (f1 dInt) := cd1 fun φ H st d v W σ Q s r p => by
  cases r with
  | int => exact .inl ⟨_, rfl, postNow (W := W) (σ := σ) s p _ .int⟩
  | bl => exact .inr ⟨_, rfl, postNow (W := W) (σ := σ) s p _ .int⟩
  | _ => exact p.elim
theorem cd_max : CallD X G (fun xs H Q => ∃ i j, xs = [.int i, .int j] ∧ Q (.int (if j > i then j else i)) H) (f2 dMax) := cd2 fun φ H st d v e u W σ Q s r1 r2 p => by
  cases r1 with
  | int => cases r2 with
    | int => exact ⟨_, _, rfl, postNow (W := W) (σ := σ) s p _ .int⟩
    | _ => exact p.elim
  | _ => exact p.elim
theorem cd_min : CallD X G (fun xs H Q => ∃ i j, xs = [.int i, .int j] ∧ Q (.int (if j < i then j else i)) H) (f2 dMin) := cd2 fun φ H st d v e u W σ Q s r1 r2 p => by
  cases r1 with
  | int => cases r2 with
    | int => exact ⟨_, _, rfl, postNow (W := W) (σ := σ) s p _ .int⟩
    | _ => exact p.elim
  | _ => exact p.elim
theorem cd_len : CallD X G (fun xs H Q => ∃ x n, xs = [x] ∧ LenV X.K x H n ∧ Q (.int n) H) (f1 dLen) := cd1 fun φ H st d v W σ Q s r p => by
  have lw : ∀ {d : D} {v : V}, Rp X.K G φ H d v → Post X.K G W σ φ H (bnd (lLst d) (fun xs => ret (.int xs.length)) st) (fun d _ φ' H' => ∀ v, Rp X.K G φ' H' d v → Q v H') → ∃ x n, [v] = [x] ∧ LenV X.K x H n ∧ Q (.int n) H := fun r p => by
    obtain ⟨a, vs, xs, rfl, h1, r1, p1⟩ := lLst_of s r (Post.bind p)
    refine ⟨_, vs.length, rfl, .inl ⟨vs, SqL.of h1, rfl⟩, ?_⟩
    have := postNow (W := W) (σ := σ) s p1 _ .int
    rw [r1.length] at this
    exact this
  cases r with
  | @tup xs a vs hs rl =>
    refine ⟨_, vs.length, rfl, .inr ⟨vs, hs, rfl⟩, ?_⟩
    have := postNow (W := W) (σ := σ) s p _ .int
    rw [rl.length] at this
    exact this
  | @scr xs a vs hs rl =>
    refine ⟨_, vs.length, rfl, .inl ⟨vs, hs.elim (fun ⟨o, h⟩ => .inl (.inr ⟨o, h⟩)) (fun h => h H), rfl⟩, ?_⟩
    have := postNow (W := W) (σ := σ) s p _ .int
    rw [rl.length] at this
    exact this
  | str hz =>
    obtain ⟨c, p1⟩ := Post.chk p
    exact ⟨_, _, rfl, ⟨by rw [str_len]; exact lim_line c, str_len.symm⟩, postNow (W := W) (σ := σ) s p1 _ .int⟩
  | lst a b c d => exact lw (.lst a b c d) p
  | cel h => exact lw (.cel h) p
  | non => exact lw .non p
  | bl => exact lw .bl p
  | int => exact lw .int p
  | fn h => exact lw (.fn h) p
  | hof h => exact lw (.hof h) p
end
end DL
namespace DL
open PySem PySem.Spec PyProof.Rows L2
section
variable {X : Cx} {G : Gx} {W : WX} {σ : St} {φ : List Addr} {H : Hp} {st : Store}
theorem cd_tuple : CallD X G (fun xs H Q => ∃ p ys, xs = [V.ref p] ∧ ((SqL X.K H p ys ∧ ∀ l, H l = none → Q (.ref l) (upd H l (.tup ys))) ∨ SqT X.K H p ys ∧ Q (.ref p) H)) (f1 dTuple) := cd1 fun φ H st d v W σ Q s r p => by
  have lw : ∀ {d : D} {v : V}, Rp X.K G φ H d v → Post X.K G W σ φ H (bnd (lLst d) (fun xs => ret (.tup xs)) st) (fun d _ φ' H' => ∀ v, Rp X.K G φ' H' d v → Q v H') → ∃ p ys, [v] = [V.ref p] ∧ ((SqL X.K H p ys ∧ ∀ l, H l = none → Q (.ref l) (upd H l (.tup ys))) ∨ SqT X.K H p ys ∧ Q (.ref p) H) := fun r p => by
    obtain ⟨a, vs, xs, rfl, h1, r1, p1⟩ := lLst_of s r (Post.bind p)
    exact ⟨_, _, rfl, .inl ⟨SqL.of h1, fun q hq => Post.made (G := G) (W := W) (σ := σ) s p1 hq _ (rp_tup hq r1)⟩⟩
  cases r with
  | @tup xs a vs hs rl => exact ⟨_, _, rfl, .inr ⟨hs, postNow (W := W) (σ := σ) s p _ (.tup hs rl)⟩⟩
  | lst a b c d => exact lw (.lst a b c d) p
  | cel h => exact lw (.cel h) p
  | _ => exact p.elim
theorem cd_list : CallD X G (fun xs H Q => ∃ p ys, xs = [V.ref p] ∧ (SqL X.K H p ys ∨ SqT X.K H p ys) ∧ ∀ l, H l = none → Q (.ref l) (upd H l (.lst ys))) (f1 dList) := cd1 fun φ H st d v W σ Q s r p => by
  have lw : ∀ {d : D} {v : V}, Rp X.K G φ H d v → Post X.K G W σ φ H (bnd (lLst d) (fun xs => ret (.lst xs)) st) (fun d _ φ' H' => ∀ v, Rp X.K G φ' H' d v → Q v H') → ∃ p ys, [v] = [V.ref p] ∧ (SqL X.K H p ys ∨ SqT X.K H p ys) ∧ ∀ l, H l = none → Q (.ref l) (upd H l (.lst ys)) := fun r p => by
    obtain ⟨a, vs, xs, rfl, h1, r1, p1⟩ := lLst_of s r (Post.bind p)
    exact ⟨_, _, rfl, .inl (SqL.of h1), fun q hq => Post.made (G := G) (W := W) (σ := σ) s p1 hq _ (rp_lst s hq r1)⟩
  cases r with
  | @tup xs a vs hs rl => exact ⟨_, _, rfl, .inr hs, fun q hq => Post.made (G := G) (W := W) (σ := σ) s p hq _ (rp_lst s hq rl)⟩
  | lst a b c d => exact lw (.lst a b c d) p
  | cel h => exact lw (.cel h) p
  | _ => exact p.elim
theorem cd_sum : CallD X G (rSum X.K) (f1 dSum) := cd1 fun φ H st d v W σ Q s r p => by
  obtain ⟨a, vs, xs, rfl, h1, r1, p1⟩ := lLst_of s r (Post.bind p)
  cases e : intsD xs with
  | none => rw [e] at p1; exact p1.elim
  | some ns =>
    rw [e] at p1
    have ev := ints_v r1 e
    subst ev
    exact ⟨_, _, rfl, SqL.of h1, postNow (W := W) (σ := σ) s p1 _ .int⟩
theorem cd_all : CallD X G (rAll X.K) (f1 dAll) := cd1 fun φ H st d v W σ Q s r p => by
  obtain ⟨a, vs, xs, rfl, h1, r1, p1⟩ := lLst_of s r (Post.bind p)
  cases e : bls xs with
  | none => rw [e] at p1; exact p1.elim
  | some ns =>
    rw [e] at p1
    have ev := bls_v r1 e
    subst ev
    exact ⟨_, _, rfl, SqL.of h1, postNow (W := W) (σ := σ) s p1 _ .bl⟩
theorem cd_any : CallD X G (rAny X.K) (f1 dAny) := cd1 fun φ H st d v W σ Q s r p => by
  obtain ⟨a, vs, xs, rfl, h1, r1, p1⟩ := lLst_of s r (Post.bind p)
  cases e : bls xs with
  | none => rw [e] at p1; exact p1.elim
  | some ns =>
    rw [e] at p1
    have ev := bls_v r1 e
    subst ev
    exact ⟨_, _, rfl, SqL.of h1, postNow (W := W) (σ := σ) s p1 _ .bl⟩
/-! ### a cell is changed -/
theorem ext_put {a : Addr} {n : Nat} {o o' : HO} (h : φ[n]? = some a) (e : H a = some o) (hl : (∃ xs, o = .lst xs) ∨ (∃ xs, o = .dK xs) ∨ ∃ C dx fs, o = .ins C dx fs) : Ext φ H φ (upd H a o') := by
  have hm : a ∈ φ := List.mem_of_getElem? h
  have ne : ∀ b u, H b = some u → (∀ xs, u ≠ .lst xs) → (∀ xs, u ≠ .dK xs) → (∀ C dx fs, u ≠ .ins C dx fs) → b ≠ a := fun b u hb n1 n2 n3 q => by
    rw [q, e] at hb
    cases hb
    rcases hl with ⟨_, z⟩ | ⟨_, z⟩ | ⟨_, _, _, z⟩
    · exact n1 _ z
    · exact n2 _ z
    · exact n3 _ _ _ z
  refine ⟨⟨[], by simp, by simp⟩, fun b u hb n _ => ?_, fun b xs hb => ?_, fun b ob u hb => ?_, fun b hb => ?_⟩
  · rw [upd_ne fun q => n (by rw [q]; exact hm)]
    exact hb
  · rw [upd_ne (ne _ _ hb (fun _ z => by cases z) (fun _ z => by cases z) fun _ _ _ z => by cases z)]
    exact hb
  · rw [upd_ne (ne _ _ hb (fun _ z => by cases z) (fun _ z => by cases z) fun _ _ _ z => by cases z)]
    exact hb
  · by_cases q : b = a
    · rw [q, upd_same]; simp
    · rw [upd_ne q]; exact hb
theorem StOk.put {a : Addr} {n : Nat} {c : Cell} {o o' : HO} (s : StOk X.K G φ H st) (h : φ[n]? = some a) (e : H a = some o) (hl : (∃ xs, o = .lst xs) ∨ (∃ xs, o = .dK xs) ∨ ∃ C dx fs, o = .ins C dx fs) (hc : CellOk X.K G φ H c o') :
    StOk X.K G φ (upd H a o') (st.set n c) := by
  have x : Ext φ H φ (upd H a o') := ext_put h e hl
  refine ⟨by rw [List.length_set]; exact s.len, s.nd, fun i c' b h1 h2 => ?_, fun p hp => ?_, s.anc.trans x, fun b hb => x.there b (s.fx b hb), s.fd⟩
  · by_cases hi : n = i
    · subst hi
      rw [h] at h2
      cases h2
      have hn : n < st.length := by rw [← s.len]; exact (List.getElem?_eq_some_iff.mp h).1
      rw [List.getElem?_set_self hn] at h1
      cases h1
      exact ⟨o', upd_same, hc.mono x⟩
    · rw [List.getElem?_set_ne hi] at h1
      obtain ⟨u, e1, e2⟩ := s.cell i c' b h1 h2
      have hne : b ≠ a := fun q => hi (nd_ix s.nd h (by rw [← q]; exact h2))
      exact ⟨u, by rw [upd_ne hne]; exact e1, e2.mono x⟩
  · obtain ⟨ps, h1, h2, h3⟩ := s.tabs p hp
    have hne : ∀ b u, H b = some u → (∀ xs, u ≠ .lst xs) → (∀ xs, u ≠ .dK xs) → (∀ C dx fs, u ≠ .ins C dx fs) → upd H a o' b = some u := fun b u hb n1 n2 n3 => by
      have q : b ≠ a := fun q => by
        rw [q, e] at hb
        cases hb
        rcases hl with ⟨_, z⟩ | ⟨_, z⟩ | ⟨_, _, _, z⟩
        · exact n1 _ z
        · exact n2 _ z
        · exact n3 _ _ _ z
      rw [upd_ne q]
      exact hb
    refine ⟨ps, hne _ _ h1 (fun _ z => by cases z) (fun _ z => by cases z) (fun _ _ _ z => by cases z), h2, fun pos cv hcv => ?_⟩
    obtain ⟨cc, e1, e2⟩ := h3 pos cv hcv
    exact ⟨cc, e1, hne _ _ e2 (fun _ z => by unfold LamX.CodeO at z; cases z) (fun _ z => by unfold LamX.CodeO at z; cases z) (fun _ _ _ z => by unfold LamX.CodeO at z; cases z)⟩
/-- the list in a cell -/
def celL (n : Nat) : M (List D) := fun st => match st[n]? with
  | some (.lst xs) => .ok xs st
  | _ => .bad
def putC (n : Nat) (c : Cell) : M D := fun st => .ok .non (st.set n c)
theorem celL_of {n : Nat} {a : Addr} {Q : List D → Store → List Addr → Hp → Prop} (s : StOk X.K G φ H st) (h : φ[n]? = some a) (p : Post X.K G W σ φ H (celL n st) Q) : ∃ xs vs, st[n]? = some (.lst xs) ∧ H a = some (.lst vs) ∧ RpL X.K G φ H xs vs ∧ Q xs st φ H := by
  unfold celL at p
  cases e : st[n]? with
  | none => rw [e] at p; exact p.elim
  | some c =>
    rw [e] at p
    cases c with
    | lst xs =>
      obtain ⟨o, e1, e2⟩ := s.cell n _ a e h
      cases e2 with
      | lst rl => exact ⟨_, _, rfl, e1, rl, postNow (W := W) (σ := σ) s p⟩
    | dct _ => exact p.elim
    | dctL _ => exact p.elim
    | ins _ _ => exact p.elim
theorem putC_of {n : Nat} {a : Addr} {c : Cell} {o o' : HO} {Q : D → Store → List Addr → Hp → Prop} (s : StOk X.K G φ H st) (h : φ[n]? = some a) (e : H a = some o) (hl : (∃ xs, o = .lst xs) ∨ (∃ xs, o = .dK xs) ∨ ∃ C dx fs, o = .ins C dx fs) (hc : CellOk X.K G φ H c o') (p : Post X.K G W σ φ H (putC n c st) Q) :
    Q .non (st.set n c) φ (upd H a o') := p φ _ (ext_put h e hl) (s.put h e hl hc)
/-! ### xs[i] = v -/
def setIx (o i d : D) : M D := match o with
  | .cel n => (match i with
    | .int k => bnd (celL n) fun xs => (match ixN xs.length k with
      | some j => putC n (.lst (xs.set j d))
      | none => fail)
    | _ => fail)
  | _ => fail
def gSub (mo mi : Env' → M D) : GM := fun d ρ => bnd (mo ρ) fun o => bnd (mi ρ) fun i => bnd (setIx o i d) fun _ => ret ρ
theorem Post.okG {ρ : Env'} {m : M D} {Q : St → Hp → Prop} (h : PostG X.K G φ H (bnd m (fun _ => ret ρ) st) Q) : Post X.K G W0 σ φ H (m st) fun _ st' φ' H' => ∀ σ', EnvOk X.K G φ' H' σ' ρ → Q σ' H' := by
  unfold bnd at h
  cases e : m st with
  | ok a st' =>
    rw [e] at h
    exact fun φ' H' x s σ' ev => h φ' H' σ' x ⟨s, ev⟩
  | exc c st' => rw [e] at h; exact h.elim
  | bad => rw [e] at h; exact h
theorem PostG.bind {α : Type} {m : M α} {f : α → M Env'} {Q : St → Hp → Prop} (h : PostG X.K G φ H (bnd m f st) Q) : Post X.K G W0 σ φ H (m st) fun a st' φ' H' => PostG X.K G φ' H' (f a st') Q := by
  unfold bnd at h
  cases e : m st with
  | ok a st' =>
    rw [e] at h
    exact fun φ' H' x s => PostG.ext x h
  | exc c st' => rw [e] at h; exact h.elim
  | bad => rw [e] at h; exact h
theorem Post.w {α : Type} {W' : WX} {σ' : St} {r : R α} {Q : α → Store → List Addr → Hp → Prop} (h : Post X.K G W0 σ φ H r Q) : Post X.K G W' σ' φ H r Q := by
  cases r with
  | ok a st' => exact h
  | exc c st' => exact fun φ2 H2 x s => (h φ2 H2 x s).elim
  | bad => exact h
theorem setIx_of {do' di dd : D} {o i v : V} {ρ : Env'} {Q : St → Hp → Prop} (so : SOk X.K G φ H σ ρ st) (ro : Rp X.K G φ H do' o) (ri : Rp X.K G φ H di i) (rd : Rp X.K G φ H dd v) (p : PostG X.K G φ H (bnd (setIx do' di dd) (fun _ => ret ρ) st) Q) : rSetL o i v H fun H3 => Q σ H3 := by
  have p1 := Post.okG (σ := σ) p
  cases ro with
  | @cel n a hn =>
    cases ri with
    | @int k =>
      obtain ⟨xs, vs, e1, e2, rl, p2⟩ := celL_of so.s hn (Post.bind (K := X.K) p1)
      cases e : ixN xs.length k with
      | none => rw [e] at p2; exact p2.elim
      | some j =>
        rw [e] at p2
        refine ⟨a, vs, k, j, rfl, rfl, e2, by rw [← rl.length]; exact e, ?_⟩
        exact putC_of so.s hn e2 (.inl ⟨_, rfl⟩) (.lst (RpL.set rd j rl)) p2 σ (so.e.mono (ext_put hn e2 (.inl ⟨_, rfl⟩)))
    | _ => exact p1.elim
  | _ => exact p1.elim
theorem gt_sub {o i : Expr} {mo mi : Env' → M D} {pos : Pos} (ho : ME X G W o mo) (hi : ME X G W i mi)
    (ha : ∀ v, assign (.Subscript o i pos) X.env v = (do
      let ov ← holding [v] (eval o X.env)
      let iv ← holding [v, ov] (eval i X.env)
      standAt pos
      holding [v, ov, iv] (setItem ov iv v)
      release [v, ov, iv] []) := by intro _; rfl) : GT X G (.Subscript o i pos) (gSub mo mi) := by
  refine pgImp (pg_sub ho hi set_list ha) fun v σ H Q ⟨φ, ρ, st, d, so, r, p⟩ => ?_
  refine tM_of so (Post.w (σ := σ) (PostG.bind (σ := σ) p)) fun d1 st1 φ1 H1 v1 x1 so1 r1 p1 => ?_
  refine tM_of so1 (Post.w (σ := σ) (PostG.bind (σ := σ) p1)) fun d2 st2 φ2 H2 v2 x2 so2 r2 p2 => ?_
  exact setIx_of so2 (r1.mono x2) r2 ((r.mono x1).mono x2) p2
/-! ### methods of lists and texts -/
def kLst (d : D) : M Unit := bnd (lLst d) fun _ => ret ()
def kStr : D → M Unit
  | .str _ => ret ()
  | _ => fail
def mMeth (kd : D → M Unit) (f : D → List D → M D) (mo : Env' → M D) (ms : Env' → M (List D)) (ρ : Env') : M D := bnd (mo ρ) fun o => bnd (kd o) fun _ => bnd (ms ρ) fun ds => f o ds
def KindD (X : Cx) (G : Gx) (T : String) (kd : D → M Unit) : Prop := ∀ φ H st d v (W : WX) (σ : St) (Q : Unit → Store → List Addr → Hp → Prop), StOk X.K G φ H st → Rp X.K G φ H d v → Post X.K G W σ φ H (kd d st) Q → tyV X.K T v H ∧ Q () st φ H
def MethD (X : Cx) (G : Gx) (r : V → List V → Hp → VK → Prop) (f : D → List D → M D) : Prop := ∀ φ H st d v ds vs (W : WX) (σ : St) (Q : VK), StOk X.K G φ H st → Rp X.K G φ H d v → RpL X.K G φ H ds vs →
  Post X.K G W σ φ H (f d ds st) (fun d _ φ' H' => ∀ v, Rp X.K G φ' H' d v → Q v H') → r v vs H Q
theorem kd_list : KindD X G "list" kLst := fun φ H st d v W σ Q s r p => by
  obtain ⟨a, vs, xs, rfl, h1, r1, p1⟩ := lLst_of s r (Post.bind p)
  exact ⟨.inl ⟨rfl, _, SqL.of h1⟩, postNow (W := W) (σ := σ) s p1⟩
theorem kd_str : KindD X G "str" kStr := fun φ H st d v W σ Q s r p => by
  cases r with
  | str h => exact ⟨rfl, postNow (W := W) (σ := σ) s p⟩
  | _ => exact p.elim
section
variable {T name id : String} {nm : Str} {r : V → List V → Hp → VK → Prop} {kd : D → M Unit} {f : D → List D → M D} {o e : Expr} {es : List Expr} {mo : Env' → M D} {ms : Env' → M (List D)}
theorem tBM_of (hk : KindD X G T kd) (hf : MethD X G r f) (σ : St) (H : Hp) (Q : VK) (h : tM X.K G W (mMeth kd f mo ms) σ H Q) : tBM X.K T r (tM X.K G W mo) (tML X.K G W ms) σ H Q := by
  obtain ⟨φ, ρ, st, so, p⟩ := h
  refine tM_of so (Post.bind p) fun d1 st1 φ1 H1 v1 x1 so1 r1 p1 => ?_
  obtain ⟨ty, p2⟩ := hk φ1 H1 st1 d1 v1 W σ _ so1.s r1 (Post.bind p1)
  refine ⟨ty, tML_of so1 (Post.bind p2) fun ds st2 φ2 H2 vs x2 so2 r2 p3 => ?_⟩
  exact hf φ2 H2 st2 d1 v1 ds vs W σ Q so2.s (r1.mono x2) r2 p3
end
def dAppend (o : D) : List D → M D
  | [d] => (match o with
    | .cel n => bnd (celL n) fun xs => chk (decide (xs.length + 1 ≤ LIM)) (putC n (.lst (xs ++ [d])))
    | _ => fail)
  | _ => fail
theorem md_append : MethD X G rAppend dAppend := fun φ H st d v ds vs W σ Q s r rl p => by
  cases rl with
  | nil => exact p.elim
  | cons r1 rr => cases rr with
    | cons _ _ => exact p.elim
    | nil => cases r with
      | @cel n a hn =>
        obtain ⟨xs, ws, e1, e2, rx, p2⟩ := celL_of s hn (Post.bind p)
        obtain ⟨c, p3⟩ := Post.chk p2
        have hc : xs.length + 1 ≤ LIM := of_decide_eq_true c
        refine ⟨_, _, _, rfl, rfl, e2, by rw [← rx.length]; exact lim_lt (decide_eq_true (by omega)), ?_⟩
        exact putC_of s hn e2 (.inl ⟨_, rfl⟩) (.lst (rx.snoc r1)) p3 _ .non
      | _ => exact p.elim
/-- s.join(list or tuple of texts) -/
def joinS (a : List Nat) : List (List Nat) → List Nat
  | [] => []
  | [s] => s
  | s :: r => s ++ (a ++ joinS a r)
def dJoin (o : D) : List D → M D
  | [x] => (match o with
    | .str a => (match x with
      | .tup xs => (match strs' xs with
        | some ss => chk (decide ((ss.map List.length).sum + ss.length * a.length ≤ LIM)) (ret (.str (joinS a ss)))
        | none => fail)
      | x => bnd (lLst x) fun xs => (match strs' xs with
        | some ss => chk (decide ((ss.map List.length).sum + ss.length * a.length ≤ LIM)) (ret (.str (joinS a ss)))
        | none => fail))
    | _ => fail)
  | _ => fail
theorem join_v (a : List Nat) : ∀ ss : List (List Nat), Txt.join (mkS a) (ss.map mkS) = mkS (joinS a ss)
  | [] => rfl
  | [s] => by
    show Builtin.Str.glued (mkS a) [mkS s] = mkS s
    rw [StrLaws.glued_eq_join]
    rfl
  | s :: t :: r => by
    have ih := join_v a (t :: r)
    show Builtin.Str.glued (mkS a) (mkS s :: mkS t :: r.map mkS) = _
    have ih' : Builtin.Str.glued (mkS a) (mkS t :: r.map mkS) = mkS (joinS a (t :: r)) := ih
    rw [StrLaws.glued_eq_join] at ih' ⊢
    show mkS s ++ mkS a ++ Str.join (mkS a) (mkS t :: r.map mkS) = mkS (s ++ (a ++ joinS a (t :: r)))
    rw [ih']
    unfold mkS
    rw [← str_app, ← str_app, List.append_assoc]
theorem joinS_all {a : List Nat} {p : Nat → Bool} (ha : a.all p = true) : ∀ {ss : List (List Nat)}, (∀ s ∈ ss, s.all p = true) → (joinS a ss).all p = true
  | [], _ => rfl
  | [s], h => h s List.mem_cons_self
  | s :: t :: r, h => by
    show (s ++ (a ++ joinS a (t :: r))).all p = true
    rw [List.all_append, List.all_append, h s List.mem_cons_self, ha, joinS_all ha fun z hz => h z (List.mem_cons_of_mem _ hz)]
    rfl
theorem mkS_len (s : List Nat) : (mkS s).length = s.length := str_len
theorem lens (ss : List (List Nat)) : ((ss.map mkS).map (·.length)) = ss.map List.length := by
  rw [List.map_map]
  exact List.map_congr_left fun s _ => mkS_len s
def rJoin (K : PySem.W.Frag) : V → List V → Hp → VK → Prop := fun x xs H Q => ∃ a p, ∃ ys : List Str, x = .str a ∧ xs = [.ref p] ∧ (SqL K H p (ys.map V.str) ∨ SqT K H p (ys.map V.str)) ∧ (ys.map (·.length)).sum + ys.length * a.length ≤ 16777216 ∧ Q (.str (Txt.join a ys)) H
theorem join_of {a : List Nat} {p : Addr} {xs : List D} {vs : List V} {Q : VK} (s : StOk X.K G φ H st) (ha : (a.all fun c => decide (c < 0x110000)) = true) (rl : RpL X.K G φ H xs vs) (hs : SqL X.K H p vs ∨ SqT X.K H p vs)
    (h : Post X.K G W σ φ H ((match strs' xs with
        | some ss => chk (decide ((ss.map List.length).sum + ss.length * a.length ≤ LIM)) (ret (D.str (joinS a ss)))
        | none => (fail : M D)) st) fun d _ φ' H' => ∀ v, Rp X.K G φ' H' d v → Q v H') : rJoin X.K (.str ⟨a.toArray⟩) [.ref p] H Q := by
  cases e : strs' xs with
  | none => rw [e] at h; exact h.elim
  | some ss =>
    rw [e] at h
    obtain ⟨c, h2⟩ := Post.chk h
    obtain ⟨ev, hv⟩ := strs_v rl e
    subst ev
    refine ⟨_, p, ss.map mkS, rfl, rfl, hs, ?_, ?_⟩
    · rw [lens, List.length_map, str_len]
      have := of_decide_eq_true c
      have : LIM ≤ 16777216 := by decide
      omega
    · have e2 : Txt.join ⟨a.toArray⟩ (ss.map mkS) = ⟨(joinS a ss).toArray⟩ := join_v a ss
      rw [e2]
      exact postNow (W := W) (σ := σ) s h2 _ (.str (joinS_all ha hv))
theorem md_join : MethD X G (rJoin X.K) dJoin := fun φ H st d v ds vs W σ Q s r rl p => by
  cases rl with
  | nil => exact p.elim
  | cons r1 rr => cases rr with
    | cons _ _ => cases r <;> exact p.elim
    | nil => cases r with
      | @str a ha =>
        have lw : ∀ {d : D} {v : V}, Rp X.K G φ H d v → Post X.K G W σ φ H (bnd (lLst d) (fun xs => (match strs' xs with
            | some ss => chk (decide ((ss.map List.length).sum + ss.length * a.length ≤ LIM)) (ret (D.str (joinS a ss)))
            | none => fail)) st) (fun d _ φ' H' => ∀ v, Rp X.K G φ' H' d v → Q v H') → rJoin X.K (.str ⟨a.toArray⟩) [v] H Q := fun r p => by
          obtain ⟨b, vs, xs, rfl, h1, r1, p1⟩ := lLst_of s r (Post.bind p)
          exact join_of s ha r1 (.inl (SqL.of h1)) p1
        cases r1 with
        | tup hs rl => exact join_of s ha rl (.inr hs) p
        | lst a b c d => exact lw (.lst a b c d) p
        | cel h => exact lw (.cel h) p
        | non => exact lw .non p
        | bl => exact lw .bl p
        | int => exact lw .int p
        | str h => exact lw (.str h) p
        | fn h => exact lw (.fn h) p
        | hof h => exact lw (.hof h) p
        | scr a b => exact lw (.scr a b) p
      | _ => exact p.elim
/-- list.index: the first place of an item that is the same -/
def dIndex (o : D) : List D → M D
  | [x] => bnd (lLst o) fun xs => chk (D.flat x && xs.all D.flat) (match xs.findIdx? fun z => D.eqv z x with
    | some j => ret (.int j)
    | none => fail)
  | _ => fail
theorem md_index : MethD X G (rIndex X.K) dIndex := fun φ H st d v ds vs W σ Q s r rl p => by
  cases rl with
  | nil => exact p.elim
  | cons r1 rr => cases rr with
    | cons _ _ => exact p.elim
    | nil =>
      rename_i x y
      obtain ⟨a, vs, xs, rfl, h1, r2, p1⟩ := lLst_of s r (Post.bind p)
      obtain ⟨c, p2⟩ := Post.chk p1
      obtain ⟨c1, c2⟩ := Bool.and_eq_true_iff.mp c
      cases e : xs.findIdx? fun z => D.eqv z x with
      | none => rw [e] at p2; exact p2.elim
      | some j =>
        rw [e] at p2
        obtain ⟨hj, hz, hm⟩ := List.findIdx?_eq_some_iff_getElem.mp e
        obtain ⟨z, hz1, hz2⟩ := r2.get (List.getElem?_eq_getElem hj)
        have fl : ∀ {i : Nat} {d : D}, xs[i]? = some d → D.flat d = true := fun {i d} h => List.all_eq_true.mp c2 d (List.mem_of_getElem? h)
        refine ⟨a, vs, y, j, z, rfl, rfl, SqL.of h1, flat_v c1 r1, flatL_v c2 r2, hz1, ?_, fun m z' hmj hm' => ?_, postNow (W := W) (σ := σ) s p2 _ .int⟩
        · rw [← eqv_v (fl (List.getElem?_eq_getElem hj)) c1 hz2 r1]
          exact hz
        · obtain ⟨d', hd', rd'⟩ := r2.get' hm'
          rw [← eqv_v (fl hd') c1 rd' r1]
          have hlt : m < xs.length := (List.getElem?_eq_some_iff.mp hd').1
          have := hm m hmj
          rw [List.getElem?_eq_getElem hlt] at hd'
          cases hd'
          simpa using this
def dPop (o : D) : M D := match o with
  | .cel n => bnd (celL n) fun xs => (match xs[xs.length - 1]? with
    | some y => bnd (putC n (.lst xs.dropLast)) fun _ => ret y
    | none => fail)
  | _ => fail
def mPop (m : Env' → M D) (ρ : Env') : M D := bnd (m ρ) fun o => bnd (kLst o) fun _ => dPop o
section
variable {o e : Expr} {es : List Expr} {mo : Env' → M D} {ms : Env' → M (List D)} {apos cpos : Pos}
theorem me_pop (ho : ME X G W o mo) (hbase : attributeBase o "pop" X.env (eval o X.env) = eval o X.env := by rfl) (hline : (apos.endLine == cpos.line) = true := by rfl) : ME X G W (.Call (.Attribute o "pop" apos) [] [] cpos) (mPop mo) := by
  refine peImp (pe_bm0 PySem.F.plainAttrs_list PySem.F.slot_list_pop PySem.F.type_list_pop mt_pop ho hbase hline) fun σ H Q ⟨φ, ρ, st, so, p⟩ => ?_
  refine tM_of so (Post.bind p) fun d1 st1 φ1 H1 v1 x1 so1 r1 p1 => ?_
  obtain ⟨ty, p2⟩ := kd_list φ1 H1 st1 d1 v1 W σ _ so1.s r1 (Post.bind p1)
  refine ⟨ty, ?_⟩
  cases r1 with
  | @cel n a hn =>
    obtain ⟨xs, vs, e1, e2, rl, p3⟩ := celL_of so1.s hn (Post.bind p2)
    cases e : xs[xs.length - 1]? with
    | none => rw [e] at p3; exact p3.elim
    | some y =>
      rw [e] at p3
      obtain ⟨v, h1, h2⟩ := rl.get e
      refine ⟨_, vs, v, rfl, rfl, e2, by rw [← rl.length]; exact h1, ?_⟩
      have hd : RpL X.K G φ1 H1 xs.dropLast vs.dropLast := by
        rw [List.dropLast_eq_take, List.dropLast_eq_take, rl.length]
        exact rl.take _
      have p4 := putC_of so1.s hn e2 (.inl ⟨_, rfl⟩) (.lst hd) (Post.bind p3)
      exact postNow (W := W) (σ := σ) (so1.s.put hn e2 (.inl ⟨_, rfl⟩) (.lst hd)) p4 _ (h2.mono (ext_put hn e2 (.inl ⟨_, rfl⟩)))
  | _ => exact p2.elim
theorem me_append (ho : ME X G W o mo) (ha : MA X G W (e :: es) ms) (hbase : attributeBase o "append" X.env (eval o X.env) = eval o X.env := by rfl)
    (hfew : ((backTo cpos (starEach (e :: es) X.env)).all (fun x => !x.1) && (backToKw cpos (keywordEach [] X.env)).all (fun x => x.1.isSome) && decide ((e :: es).length + ([] : List Keyword).length + (if ([] : List Keyword).isEmpty then 0 else 1) < 30)) = true := by rfl)
    (hline : (apos.endLine == cpos.line) = true := by rfl) (hs : starEach (e :: es) X.env = (false, eval e X.env) :: starEach es X.env := by rfl) (hplain : (backTo cpos (starEach es X.env)).any (·.1) = false := by rfl) : ME X G W (.Call (.Attribute o "append" apos) (e :: es) [] cpos) (mMeth kLst dAppend mo ms) :=
  peImp (pe_bm PySem.F.plainAttrs_list PySem.F.slot_list_append PySem.F.type_list_append mt_append ho ha hbase hfew hline hs hplain) fun σ H Q h => tBM_of kd_list md_append σ H Q h
theorem me_index (ho : ME X G W o mo) (ha : MA X G W (e :: es) ms) (hbase : attributeBase o "index" X.env (eval o X.env) = eval o X.env := by rfl)
    (hfew : ((backTo cpos (starEach (e :: es) X.env)).all (fun x => !x.1) && (backToKw cpos (keywordEach [] X.env)).all (fun x => x.1.isSome) && decide ((e :: es).length + ([] : List Keyword).length + (if ([] : List Keyword).isEmpty then 0 else 1) < 30)) = true := by rfl)
    (hline : (apos.endLine == cpos.line) = true := by rfl) (hs : starEach (e :: es) X.env = (false, eval e X.env) :: starEach es X.env := by rfl) (hplain : (backTo cpos (starEach es X.env)).any (·.1) = false := by rfl) : ME X G W (.Call (.Attribute o "index" apos) (e :: es) [] cpos) (mMeth kLst dIndex mo ms) :=
  peImp (pe_bm PySem.F.plainAttrs_list PySem.F.slot_list_index PySem.F.type_list_index mt_index ho ha hbase hfew hline hs hplain) fun σ H Q h => tBM_of kd_list md_index σ H Q h
theorem me_join (ho : ME X G W o mo) (ha : MA X G W (e :: es) ms) (hbase : attributeBase o "join" X.env (eval o X.env) = eval o X.env := by rfl)
    (hfew : ((backTo cpos (starEach (e :: es) X.env)).all (fun x => !x.1) && (backToKw cpos (keywordEach [] X.env)).all (fun x => x.1.isSome) && decide ((e :: es).length + ([] : List Keyword).length + (if ([] : List Keyword).isEmpty then 0 else 1) < 30)) = true := by rfl)
    (hline : (apos.endLine == cpos.line) = true := by rfl) (hs : starEach (e :: es) X.env = (false, eval e X.env) :: starEach es X.env := by rfl) (hplain : (backTo cpos (starEach es X.env)).any (·.1) = false := by rfl) : ME X G W (.Call (.Attribute o "join" apos) (e :: es) [] cpos) (mMeth kStr dJoin mo ms) :=
  peImp (pe_bm PySem.F.plainAttrs_str PySem.F.slot_str_join PySem.F.type_str_join mt_join ho ha hbase hfew hline hs hplain) fun σ H Q h => tBM_of kd_str md_join σ H Q h
end
end
end DL
namespace DL
open PySem PySem.Spec PyProof.Rows L2
/-! ### what is walked -/
def always (_ : Store) : Bool := true
def cellIs (n : Nat) (xs : List D) (st : Store) : Bool := match st[n]? with
  | some (.lst ys) => D.beqL ys xs
  | _ => false
def sgn (c : Nat) : D := .str [c]
def itA : D → M Itm
  | .lst xs => ret ⟨xs, always⟩
  | .tup xs => ret ⟨xs, always⟩
  | .scr xs => ret ⟨xs, always⟩
  | .str s => ret ⟨s.map sgn, always⟩
  | .cel n => bnd (celL n) fun xs => ret ⟨xs, cellIs n xs⟩
  | _ => fail
def mIt (m : Env' → M D) (ρ : Env') : M Itm := bnd (m ρ) itA
/-- a list as it is walked along with others: its items and what must stay -/
def lsA : D → M Itm
  | .lst xs => ret ⟨xs, always⟩
  | .cel n => bnd (celL n) fun xs => ret ⟨xs, cellIs n xs⟩
  | _ => fail
def enumL (k : Nat) : List D → List D
  | [] => []
  | x :: r => .tup [.int (k : Int), x] :: enumL (k + 1) r
def zipL : List D → List D → List D
  | x :: r, y :: q => .tup [x, y] :: zipL r q
  | _, _ => []
def itEnum : List D → M Itm
  | [x] => bnd (lsA x) fun it => ret ⟨enumL 0 it.xs, it.ck⟩
  | _ => fail
def itZip : List D → M Itm
  | [x, y] => (match x with
    | .tup xs => (match y with
      | .tup ys => ret ⟨zipL xs ys, always⟩
      | _ => fail)
    | x => bnd (lsA x) fun a => bnd (lsA y) fun b => ret ⟨zipL a.xs b.xs, fun st => a.ck st && b.ck st⟩)
  | _ => fail
def rngL (lo : Int) (n : Nat) : List D := (List.range n).map fun i => .int (lo + (i : Nat))
def rngC (lo c : Int) (n : Nat) : List D := (List.range n).map fun i => .int (lo + (i : Nat) * c)
def rOk (j : Int) : Bool := decide (-(2 ^ 62) ≤ j) && decide (j < 2 ^ 62)
def itR1 : List D → M Itm
  | [.int j] => chk (rOk j) (ret ⟨rngL 0 j.toNat, always⟩)
  | _ => fail
def itR2 : List D → M Itm
  | [.int i, .int j] => chk (rOk i && rOk j) (ret ⟨rngL i (j - i).toNat, always⟩)
  | _ => fail
def itR3 : List D → M Itm
  | [.int i, .int j, .int c] => chk (decide (c ≠ 0) && decide (c.natAbs < 1073741824) && Builtin.Range.small i j c && decide (0 ≤ Builtin.Range.rangeSize i j c)) (ret ⟨rngC i c (Builtin.Range.rangeSize i j c).toNat, always⟩)
  | _ => fail
def mItL (f : List D → M Itm) (ms : Env' → M (List D)) (ρ : Env') : M Itm := bnd (ms ρ) f
section
variable {X : Cx} {G : Gx} {W : WX} {σ : St} {φ : List Addr} {H : Hp} {st : Store} {tg : Expr}
theorem pi_or {e : Expr} {t t' : TI} (h : PI X tg e t) (h' : PI X tg e t') : PI X tg e (fun σ H R => t σ H R ∨ t' σ H R) := ⟨fun pins s σ H R I q => q.elim (h.run pins s σ H R I) (h'.run pins s σ H R I)⟩
/-- a list at a, whatever stands there while ck holds -/
theorem itD_list {K : PySem.W.Frag} {φ1 : List Addr} {H1 : Hp} {a : Addr} {it : Itm} (h : ∀ φ H st, Ext φ1 H1 φ H → StOk K G φ H st → it.ck st = true → ∃ vs, SqL K H a vs ∧ RpL K G φ H it.xs vs) : ItD K G φ1 H1 (Itl K a) it := by
  refine ⟨fun φ H st i d x s c e => ?_, fun φ H st x s c => ?_⟩
  · obtain ⟨vs, h1, h2⟩ := h φ H st x s c
    obtain ⟨v, h3, h4⟩ := h2.get e
    refine ⟨⟨vs, v, h1, h3⟩, fun y H' hy => ?_⟩
    obtain ⟨rfl, hy⟩ := hy
    have e2 := (hy vs h1).symm.trans h3
    cases e2
    exact ⟨fun _ _ z => z, h4⟩
  · obtain ⟨vs, h1, h2⟩ := h φ H st x s c
    exact ⟨vs, h1, by rw [h2.length]; exact Nat.le_refl _⟩
theorem itD_tup {K : PySem.W.Frag} {φ1 : List Addr} {H1 : Hp} {a : Addr} {it : Itm} (h : ∀ φ H st, Ext φ1 H1 φ H → StOk K G φ H st → it.ck st = true → ∃ vs, SqT K H a vs ∧ RpL K G φ H it.xs vs) : ItD K G φ1 H1 (Itt K a) it := by
  refine ⟨fun φ H st i d x s c e => ?_, fun φ H st x s c => ?_⟩
  · obtain ⟨vs, h1, h2⟩ := h φ H st x s c
    obtain ⟨v, h3, h4⟩ := h2.get e
    refine ⟨⟨vs, v, h1, h3⟩, fun y H' hy => ?_⟩
    obtain ⟨rfl, hy⟩ := hy
    have e2 := (hy vs h1).symm.trans h3
    cases e2
    exact ⟨fun _ _ z => z, h4⟩
  · obtain ⟨vs, h1, h2⟩ := h φ H st x s c
    exact ⟨vs, h1, by rw [h2.length]; exact Nat.le_refl _⟩
/-- a list's value, walked: where it stands and what it bears -/
theorem lsA_of {d : D} {v : V} {Q : Itm → Store → List Addr → Hp → Prop} (s : StOk X.K G φ H st) (r : Rp X.K G φ H d v) (p : Post X.K G W σ φ H (lsA d st) Q) :
    ∃ a vs it, v = .ref a ∧ SqL X.K H a vs ∧ Q it st φ H ∧ ∀ fx, (∀ a ∈ fx, a ∈ G.fx ∨ H a = none) → ∀ φ' H' st', Ext φ H φ' H' → StOk X.K (G.fl fx) φ' H' st' → it.ck st' = true → ∃ vs, SqL X.K H' a vs ∧ RpL X.K (G.fl fx) φ' H' it.xs vs := by
  cases r with
  | @lst xs a vs hd n z rl =>
    exact ⟨a, vs, ⟨xs, always⟩, rfl, SqL.of hd, postNow (W := W) (σ := σ) s p, fun fx hfx φ' H' st' x s' _ => ⟨vs, SqL.of (x.rd hd n).1, (rl.fl hfx).mono x⟩⟩
  | @cel n a hn =>
    obtain ⟨xs, vs, e1, e2, rl, p2⟩ := celL_of s hn (Post.bind p)
    refine ⟨a, vs, ⟨xs, cellIs n xs⟩, rfl, SqL.of e2, postNow (W := W) (σ := σ) s p2, fun fx hfx φ' H' st' x s' c => ?_⟩
    have c' : cellIs n xs st' = true := c
    unfold cellIs at c'
    cases e : st'[n]? with
    | none => rw [e] at c'; cases c'
    | some cc =>
      rw [e] at c'
      cases cc with
      | lst ys =>
        have ey : ys = xs := D.beqL_eq c'
        subst ey
        obtain ⟨o, h1, h2⟩ := s'.cell n _ a e (x.at hn)
        cases h2 with
        | lst rl => exact ⟨_, SqL.of h1, rl⟩
      | dct _ => cases c'
      | dctL _ => cases c'
      | ins _ _ => cases c'
  | _ => exact p.elim
theorem mi_it {e : Expr} {m : Env' → M D} (h : ME X G W e m) : MI X G W tg e (mIt m) := by
  refine piImp (pi_or (pi_list h) (pi_or (pi_tup h) (pi_str h))) fun σ H R ⟨φ, ρ, st, so, p⟩ => ?_
  have p1 := Post.bind p
  cases em : m ρ st with
  | bad => rw [em] at p1; exact p1.elim
  | exc c st' =>
    left
    refine ⟨φ, ρ, st, so, ?_⟩
    rw [em] at p1 ⊢
    exact p1
  | ok d st' =>
    rw [em] at p1
    have lw : (∀ φ1 H1, Ext φ H φ1 H1 → StOk X.K G φ1 H1 st' → Post X.K G W σ φ1 H1 (lsA d st') fun it _ φ' H' => ∀ J, (∀ fx, (∀ a ∈ fx, a ∈ G.fx ∨ H' a = none) → ItD X.K (G.fl fx) φ' H' J it) → R J H') → iList X.K (tM X.K G W m) σ H R := fun q => by
      refine ⟨φ, ρ, st, so, ?_⟩
      rw [em]
      intro φ1 H1 x1 s1 v r
      obtain ⟨a, vs, it, rfl, h1, q1, h2⟩ := lsA_of s1 r (q φ1 H1 x1 s1)
      exact ⟨a, rfl, ⟨vs, h1⟩, q1 _ fun fx hfx => itD_list (h2 fx hfx)⟩
    cases d with
    | lst xs => exact .inl (lw p1)
    | cel n => exact .inl (lw p1)
    | scr xs =>
      left
      refine ⟨φ, ρ, st, so, ?_⟩
      rw [em]
      intro φ1 H1 x1 s1 v r
      cases r with
      | @scr _ a vs hd rl =>
        have sq : ∀ {φ' : List Addr} {H' : Hp}, Ext φ1 H1 φ' H' → SqL X.K H' a vs := fun {φ' H'} x => (x.scr hd).elim (fun ⟨o, h⟩ => .inl (.inr ⟨o, h⟩)) fun h => h H'
        exact ⟨a, rfl, ⟨vs, sq (Ext.refl _ _)⟩, postNow (W := W) (σ := σ) s1 (p1 φ1 H1 x1 s1) _ fun fx hfx => itD_list fun φ' H' st'' x s' _ => ⟨vs, sq x, (rl.fl hfx).mono x⟩⟩
    | tup xs =>
      refine .inr (.inl ⟨φ, ρ, st, so, ?_⟩)
      rw [em]
      intro φ1 H1 x1 s1 v r
      cases r with
      | @tup _ a vs hs rl => exact ⟨a, rfl, ⟨vs, hs⟩, postNow (W := W) (σ := σ) s1 (p1 φ1 H1 x1 s1) _ fun fx hfx => itD_tup fun φ' H' st'' x s' _ => ⟨vs, x.sqt hs, (rl.fl hfx).mono x⟩⟩
    | str z =>
      refine .inr (.inr ⟨φ, ρ, st, so, ?_⟩)
      rw [em]
      intro φ1 H1 x1 s1 v r
      cases r with
      | str hz =>
        refine ⟨_, rfl, postNow (W := W) (σ := σ) s1 (p1 φ1 H1 x1 s1) _ fun fx hfx => ⟨fun φ' H' st'' i d x s' _ e => ?_, fun φ' H' st'' x s' _ => ?_⟩⟩
        · have e' : (z.map sgn)[i]? = some d := e
          rw [List.getElem?_map] at e'
          cases ez : z[i]? with
          | none => rw [ez] at e'; cases e'
          | some c =>
            rw [ez] at e'
            cases e'
            refine ⟨?_, fun y H2 hy => ?_⟩
            · show i < z.toArray.size
              have := (List.getElem?_eq_some_iff.mp ez).1
              simpa using this
            · obtain ⟨rfl, c2, h1, rfl⟩ := hy
              have h2 : z[i]? = some c2 := by simpa using h1
              rw [ez] at h2
              cases h2
              refine ⟨fun _ _ z => z, .str ?_⟩
              have := List.all_eq_true.mp hz c (List.mem_of_getElem? ez)
              simpa using this
        · show z.toArray.size ≤ (z.map sgn).length
          simp
    | _ =>
      left
      refine ⟨φ, ρ, st, so, ?_⟩
      rw [em]
      exact fun φ1 H1 x1 s1 v r => (p1 φ1 H1 x1 s1).elim
/-! ### enumerate, zip, range -/
theorem enumL_len : ∀ (xs : List D) (k : Nat), (enumL k xs).length = xs.length
  | [], _ => rfl
  | x :: r, k => by
    show (enumL (k + 1) r).length + 1 = r.length + 1
    rw [enumL_len r]
theorem enumL_at : ∀ (xs : List D) (k i : Nat), (enumL k xs)[i]? = xs[i]?.map fun x => .tup [.int ((k + i : Nat) : Int), x]
  | [], _, i => by simp [enumL]
  | x :: r, k, 0 => by simp [enumL]
  | x :: r, k, i + 1 => by
    show (enumL (k + 1) r)[i]? = _
    rw [enumL_at r (k + 1) i]
    show _ = r[i]?.map _
    rw [show k + 1 + i = k + (i + 1) from by omega]
theorem zipL_at : ∀ (xs ys : List D) (i : Nat) (d : D), (zipL xs ys)[i]? = some d → ∃ x y, xs[i]? = some x ∧ ys[i]? = some y ∧ d = .tup [x, y]
  | [], ys, i, d, h => by simp [zipL] at h
  | _ :: _, [], i, d, h => by simp [zipL] at h
  | x :: r, y :: q, 0, d, h => by
    simp [zipL] at h
    exact ⟨x, y, rfl, rfl, h.symm⟩
  | x :: r, y :: q, i + 1, d, h => by
    obtain ⟨a, b, h1, h2, h3⟩ := zipL_at r q i d (by simpa [zipL] using h)
    exact ⟨a, b, h1, h2, h3⟩
theorem zipL_len : ∀ (xs ys : List D), (zipL xs ys).length = min xs.length ys.length
  | [], ys => by simp [zipL]
  | _ :: _, [] => by simp [zipL]
  | x :: r, y :: q => by
    show (zipL r q).length + 1 = min (r.length + 1) (q.length + 1)
    rw [zipL_len r q]
    omega
theorem pair_rp {φ' : List Addr} {H' : Hp} {fx : List Addr} {T : Addr} {d e : D} {x y : V} (n : H' T = none) (h1 : Rp X.K (G.fl fx) φ' H' d x) (h2 : Rp X.K (G.fl fx) φ' H' e y) : (∀ b o, H' b = some o → upd H' T (.tup [x, y]) b = some o) ∧ Rp X.K (G.fl fx) φ' (upd H' T (.tup [x, y])) (.tup [d, e]) (.ref T) :=
  ⟨fun b o h => by rw [upd_ne (ne_of_none h n)]; exact h, rp_tup (G := G.fl fx) n (.cons h1 (.cons h2 .nil))⟩
section
variable {e e2 e3 : Expr} {ms : Env' → M (List D)} {p pos tpos : Pos} {elts : List Expr} {kk : Nat}
theorem mi_enum (hm : X.mg "enumerate" = none) (ha : MA X G W [e] ms) (hg : Gl X "enumerate" := by rfl) (hs : starEach [e] X.env = [(false, eval e X.env)] := by rfl) : MI X G W (.Tuple elts kk tpos) (.Call (.Name "enumerate" p) [e] [] pos) (mItL itEnum ms) := by
  refine piImp (pi_enum hg hm ha hs) fun σ H R ⟨φ, ρ, st, so, pp⟩ => ?_
  refine tML_of so (Post.bind pp) fun ds st1 φ1 H1 vs x1 so1 r1 p1 => ?_
  cases r1 with
  | nil => exact p1.elim
  | cons ra rr =>
    cases rr with
    | cons _ _ => exact p1.elim
    | nil =>
      obtain ⟨a, us, it, rfl, h1, q1, h2⟩ := lsA_of so1.s ra (Post.bind p1)
      refine ⟨a, us, rfl, h1, postNow (W := W) (σ := σ) so1.s q1 _ fun fx hfx => ⟨fun φ' H' st' i d x s c ed => ?_, fun φ' H' st' x s c => ?_⟩⟩
      · have ed' : (enumL 0 it.xs)[i]? = some d := ed
        rw [enumL_at] at ed'
        cases ei : it.xs[i]? with
        | none => rw [ei] at ed'; cases ed'
        | some z =>
          rw [ei] at ed'
          cases ed'
          obtain ⟨ws, w1, w2⟩ := h2 fx hfx φ' H' st' x s c
          obtain ⟨v, h3, h4⟩ := w2.get ei
          refine ⟨⟨ws, v, w1, h3⟩, fun y H2 hy => ?_⟩
          obtain ⟨T, u, rfl, nT, rfl, hu⟩ := hy
          have e2 := (hu ws w1).symm.trans h3
          cases e2
          rw [Nat.zero_add]
          exact pair_rp nT .int h4
      · obtain ⟨ws, w1, w2⟩ := h2 fx hfx φ' H' st' x s c
        refine ⟨ws, w1, ?_⟩
        show ws.length ≤ (enumL 0 it.xs).length
        rw [enumL_len, w2.length]
        exact Nat.le_refl _
theorem mi_zip (hm : X.mg "zip" = none) (ha : MA X G W [e, e2] ms) (hg : Gl X "zip" := by rfl) (hs : starEach [e, e2] X.env = (false, eval e X.env) :: starEach [e2] X.env := by rfl) (hpl : (backTo pos (starEach [e2] X.env)).any (·.1) = false := by rfl) :
    MI X G W (.Tuple elts kk tpos) (.Call (.Name "zip" p) [e, e2] [] pos) (mItL itZip ms) := by
  refine piImp (RZ.pi_zipA hg hm ha hs hpl) fun σ H R ⟨φ, ρ, st, so, pp⟩ => ?_
  refine tML_of so (Post.bind pp) fun ds st1 φ1 H1 vs x1 so1 r1 p1 => ?_
  cases r1 with
  | nil => exact p1.elim
  | cons ra rr =>
    cases rr with
    | nil => exact p1.elim
    | cons rb rr =>
      cases rr with
      | cons _ _ => exact p1.elim
      | nil =>
        have lw : ∀ {d1 d2 : D} {v1 v2 : V}, Rp X.K G φ1 H1 d1 v1 → Rp X.K G φ1 H1 d2 v2 → Post X.K G W σ φ1 H1 (bnd (lsA d1) (fun a => bnd (lsA d2) fun b => ret (Itm.mk (zipL a.xs b.xs) fun st => a.ck st && b.ck st)) st1) (fun it _ φ' H' => ∀ J, (∀ fx, (∀ a ∈ fx, a ∈ G.fx ∨ H' a = none) → ItD X.K (G.fl fx) φ' H' J it) → R J H') →
            ∃ a b xs ys, [v1, v2] = [V.ref a, V.ref b] ∧ ((SqL X.K H1 a xs ∧ SqL X.K H1 b ys ∧ R (Itz X.K a b) H1) ∨ (SqT X.K H1 a xs ∧ SqT X.K H1 b ys ∧ R (RZ.ItzT X.K a b) H1)) := fun ra rb p1 => by
          obtain ⟨a, us, it, rfl, h1, q1, h2⟩ := lsA_of so1.s ra (Post.bind p1)
          obtain ⟨b, us', it', rfl, h1', q1', h2'⟩ := lsA_of so1.s rb (Post.bind q1)
          refine ⟨a, b, us, us', rfl, .inl ⟨h1, h1', postNow (W := W) (σ := σ) so1.s q1' _ fun fx hfx => ⟨fun φ' H' st' i d x s c ed => ?_, fun φ' H' st' x s c => ?_⟩⟩⟩
          · obtain ⟨c1, c2⟩ := Bool.and_eq_true_iff.mp c
            obtain ⟨z, z', ez, ez', rfl⟩ := zipL_at _ _ i d ed
            obtain ⟨ws, w1, w2⟩ := h2 fx hfx φ' H' st' x s c1
            obtain ⟨ws', w1', w2'⟩ := h2' fx hfx φ' H' st' x s c2
            obtain ⟨v, h3, h4⟩ := w2.get ez
            obtain ⟨v', h3', h4'⟩ := w2'.get ez'
            refine ⟨⟨ws, ws', v, v', w1, w1', h3, h3'⟩, fun y H2 hy => ?_⟩
            obtain ⟨T, u, u', rfl, nT, rfl, hu, hu'⟩ := hy
            have e2 := (hu ws w1).symm.trans h3
            have e2' := (hu' ws' w1').symm.trans h3'
            cases e2
            cases e2'
            exact pair_rp nT h4 h4'
          · obtain ⟨c1, c2⟩ := Bool.and_eq_true_iff.mp c
            obtain ⟨ws, w1, w2⟩ := h2 fx hfx φ' H' st' x s c1
            obtain ⟨ws', w1', w2'⟩ := h2' fx hfx φ' H' st' x s c2
            refine ⟨ws, ws', w1, w1', ?_⟩
            show ws.length ≤ (zipL it.xs it'.xs).length ∨ ws'.length ≤ (zipL it.xs it'.xs).length
            rw [zipL_len, w2.length, w2'.length]
            omega
        rename_i d1 v1 d2 v2
        cases ra with
        | @tup xs a us hs rl =>
          cases rb with
          | @tup ys b us' hs' rl' =>
            refine ⟨a, b, us, us', rfl, .inr ⟨hs, hs', postNow (W := W) (σ := σ) so1.s p1 _ fun fx hfx => ⟨fun φ' H' st' i d x s c ed => ?_, fun φ' H' st' x s c => ?_⟩⟩⟩
            · obtain ⟨z, z', ez, ez', rfl⟩ := zipL_at _ _ i d ed
              obtain ⟨v, h3, h4⟩ := (((rl.fl hfx).mono x)).get ez
              obtain ⟨v', h3', h4'⟩ := (((rl'.fl hfx).mono x)).get ez'
              refine ⟨⟨us, us', v, v', x.sqt hs, x.sqt hs', h3, h3'⟩, fun y H2 hy => ?_⟩
              obtain ⟨T, u, u', rfl, nT, rfl, hu, hu'⟩ := hy
              have e2 := (hu us (x.sqt hs)).symm.trans h3
              have e2' := (hu' us' (x.sqt hs')).symm.trans h3'
              cases e2
              cases e2'
              exact pair_rp nT h4 h4'
            · refine ⟨us, us', x.sqt hs, x.sqt hs', ?_⟩
              show us.length ≤ (zipL xs ys).length ∨ us'.length ≤ (zipL xs ys).length
              rw [zipL_len, rl.length, rl'.length]
              omega
          | _ => exact p1.elim
        | lst a b c d => exact lw (.lst a b c d) rb p1
        | cel h => exact lw (.cel h) rb p1
        | _ => exact p1.elim
theorem itD_rng {K : PySem.W.Frag} {φ1 : List Addr} {H1 : Hp} {lo : Int} {n : Nat} : ItD K G φ1 H1 (Itr lo n) ⟨rngL lo n, always⟩ := by
  refine ⟨fun φ H st i d x s c e => ?_, fun φ H st x s c => by show n ≤ (rngL lo n).length; simp [rngL]⟩
  have e' : ((List.range n).map fun i => D.int (lo + (i : Nat)))[i]? = some d := e
  rw [List.getElem?_map] at e'
  by_cases hi : i < n
  · rw [List.getElem?_range hi] at e'
    cases e'
    refine ⟨hi, fun y H' hy => ?_⟩
    obtain ⟨rfl, rfl⟩ := hy
    exact ⟨fun _ _ z => z, .int⟩
  · rw [List.getElem?_eq_none (by simpa using hi)] at e'
    cases e'
theorem itD_rngC {K : PySem.W.Frag} {φ1 : List Addr} {H1 : Hp} {lo c : Int} {n : Nat} : ItD K G φ1 H1 (Itc lo c n) ⟨rngC lo c n, always⟩ := by
  refine ⟨fun φ H st i d x s c' e => ?_, fun φ H st x s c' => by show n ≤ (rngC lo c n).length; simp [rngC]⟩
  have e' : ((List.range n).map fun i => D.int (lo + (i : Nat) * c))[i]? = some d := e
  rw [List.getElem?_map] at e'
  by_cases hi : i < n
  · rw [List.getElem?_range hi] at e'
    cases e'
    refine ⟨hi, fun y H' hy => ?_⟩
    obtain ⟨rfl, rfl⟩ := hy
    exact ⟨fun _ _ z => z, .int⟩
  · rw [List.getElem?_eq_none (by simpa using hi)] at e'
    cases e'
theorem rOk_c {j : Int} (h : rOk j = true) : -(2 ^ 62) ≤ j ∧ j < 2 ^ 62 := by
  obtain ⟨h1, h2⟩ := Bool.and_eq_true_iff.mp h
  exact ⟨of_decide_eq_true h1, of_decide_eq_true h2⟩
theorem mi_range1 (hm : X.mg "range" = none) (ha : MA X G W [e] ms) (hg : Gl X "range" := by rfl) (hs : starEach [e] X.env = [(false, eval e X.env)] := by rfl) : MI X G W tg (.Call (.Name "range" p) [e] [] pos) (mItL itR1 ms) := by
  refine piImp (pi_range1 hg hm ha hs) fun σ H R ⟨φ, ρ, st, so, pp⟩ => ?_
  refine tML_of so (Post.bind pp) fun ds st1 φ1 H1 vs x1 so1 r1 p1 => ?_
  cases r1 with
  | nil => exact p1.elim
  | cons ra rr =>
    cases ra with
    | int => cases rr with
      | nil =>
        obtain ⟨c, p2⟩ := Post.chk p1
        exact ⟨_, rfl, (rOk_c c).1, (rOk_c c).2, postNow (W := W) (σ := σ) so1.s p2 _ fun fx hfx => itD_rng⟩
      | cons _ _ => exact p1.elim
    | _ => exact p1.elim
theorem mi_range2 (hm : X.mg "range" = none) (ha : MA X G W [e, e2] ms) (hg : Gl X "range" := by rfl) (hs : starEach [e, e2] X.env = [(false, eval e X.env), (false, eval e2 X.env)] := by rfl) (hs2 : starEach [e2] X.env = [(false, eval e2 X.env)] := by rfl) : MI X G W tg (.Call (.Name "range" p) [e, e2] [] pos) (mItL itR2 ms) := by
  refine piImp (pi_range2 hg hm ha hs hs2) fun σ H R ⟨φ, ρ, st, so, pp⟩ => ?_
  refine tML_of so (Post.bind pp) fun ds st1 φ1 H1 vs x1 so1 r1 p1 => ?_
  cases r1 with
  | nil => exact p1.elim
  | cons ra rr =>
    cases ra with
    | int => cases rr with
      | nil => exact p1.elim
      | cons rb rr => cases rb with
        | int => cases rr with
          | nil =>
            obtain ⟨c, p2⟩ := Post.chk p1
            obtain ⟨c1, c2⟩ := Bool.and_eq_true_iff.mp c
            exact ⟨_, _, rfl, ⟨(rOk_c c1).1, (rOk_c c1).2, (rOk_c c2).1, (rOk_c c2).2⟩, postNow (W := W) (σ := σ) so1.s p2 _ fun fx hfx => itD_rng⟩
          | cons _ _ => exact p1.elim
        | _ => exact p1.elim
    | _ => cases rr <;> exact p1.elim
theorem mi_range3 (hm : X.mg "range" = none) (ha : MA X G W [e, e2, e3] ms) (hg : Gl X "range" := by rfl) (hs : starEach [e, e2, e3] X.env = (false, eval e X.env) :: starEach [e2, e3] X.env := by rfl) (hs2 : (backTo pos (starEach [e2, e3] X.env)).any (·.1) = false := by rfl) : MI X G W tg (.Call (.Name "range" p) [e, e2, e3] [] pos) (mItL itR3 ms) := by
  refine piImp (pi_range3 hg hm ha hs hs2) fun σ H R ⟨φ, ρ, st, so, pp⟩ => ?_
  refine tML_of so (Post.bind pp) fun ds st1 φ1 H1 vs x1 so1 r1 p1 => ?_
  have key : ∀ {i j c : Int}, Post X.K G W σ φ1 H1 (itR3 [.int i, .int j, .int c] st1) (fun it _ φ' H' => ∀ J, (∀ fx, (∀ a ∈ fx, a ∈ G.fx ∨ H' a = none) → ItD X.K (G.fl fx) φ' H' J it) → R J H') → ∃ i' j' c' n, [V.int i, V.int j, V.int c] = [V.int i', V.int j', V.int c'] ∧ RgC i' j' c' n ∧ R (Itc i' c' n) H1 := fun {i j c} p1 => by
    obtain ⟨k, p2⟩ := Post.chk p1
    obtain ⟨k1, k4⟩ := Bool.and_eq_true_iff.mp k
    obtain ⟨k2, k3⟩ := Bool.and_eq_true_iff.mp k1
    obtain ⟨k5, k6⟩ := Bool.and_eq_true_iff.mp k2
    exact ⟨i, j, c, _, rfl, ⟨of_decide_eq_true k5, of_decide_eq_true k6, k3, (Int.toNat_of_nonneg (of_decide_eq_true k4)).symm⟩, postNow (W := W) (σ := σ) so1.s p2 _ fun fx hfx => itD_rngC⟩
  cases r1 with
  | nil => exact p1.elim
  | cons ra rr =>
    cases rr with
    | nil => cases ra <;> exact p1.elim
    | cons rb rr =>
      cases rr with
      | nil => cases ra <;> first | exact p1.elim | (cases rb <;> exact p1.elim)
      | cons rc rr =>
        cases rr with
        | nil =>
          cases ra with
          | int => cases rb with
            | int => cases rc with
              | int => exact key p1
              | _ => exact p1.elim
            | _ => exact p1.elim
          | _ => exact p1.elim
        | cons _ _ => cases ra <;> first | exact p1.elim | (cases rb <;> first | exact p1.elim | (cases rc <;> exact p1.elim))
end
/-! ### isinstance of a built-in class -/
def dIsStr : D → M D
  | .str _ => ret (.bl true)
  | .fn _ => fail
  | .hof => fail
  | .cel _ => fail
  | _ => ret (.bl false)
def dIsInt : D → M D
  | .int _ => ret (.bl true)
  | .bl _ => ret (.bl true)
  | .fn _ => fail
  | .hof => fail
  | .cel _ => fail
  | _ => ret (.bl false)
def dIsBool : D → M D
  | .bl _ => ret (.bl true)
  | .fn _ => fail
  | .hof => fail
  | .cel _ => fail
  | _ => ret (.bl false)
def dIsTup : D → M D
  | .tup _ => ret (.bl true)
  | .fn _ => fail
  | .hof => fail
  | .cel _ => fail
  | _ => ret (.bl false)
def kindV (K : PySem.W.Frag) (H : Hp) (d : D) (v : V) (T : String) : Prop := TyX K H v (.type T)
/-- what the four tests say of a kind -/
theorem isi_of {d : D} {v : V} (r : Rp X.K G φ H d v) : (∀ n, d ≠ .cel n) → (∀ n, d ≠ .fn n) → d ≠ .hof → ∃ T, TyX X.K H v (.type T) ∧
    (∃ b, kitB T "str" = some b ∧ dIsStr d st = .ok (.bl b) st) ∧ (∃ b, kitB T "int" = some b ∧ dIsInt d st = .ok (.bl b) st) ∧ (∃ b, kitB T "bool" = some b ∧ dIsBool d st = .ok (.bl b) st) ∧ (∃ b, kitB T "tuple" = some b ∧ dIsTup d st = .ok (.bl b) st) := fun n1 n2 n3 => by
  cases r with
  | non => exact ⟨_, .base .non, ⟨false, by decide +kernel, rfl⟩, ⟨false, by decide +kernel, rfl⟩, ⟨false, by decide +kernel, rfl⟩, ⟨false, by decide +kernel, rfl⟩⟩
  | bl => exact ⟨_, .base (.bl _), ⟨false, by decide +kernel, rfl⟩, ⟨true, by decide +kernel, rfl⟩, ⟨true, by decide +kernel, rfl⟩, ⟨false, by decide +kernel, rfl⟩⟩
  | int => exact ⟨_, .base (.int _), ⟨false, by decide +kernel, rfl⟩, ⟨true, by decide +kernel, rfl⟩, ⟨false, by decide +kernel, rfl⟩, ⟨false, by decide +kernel, rfl⟩⟩
  | str => exact ⟨_, .base (.str _), ⟨true, by decide +kernel, rfl⟩, ⟨false, by decide +kernel, rfl⟩, ⟨false, by decide +kernel, rfl⟩, ⟨false, by decide +kernel, rfl⟩⟩
  | tup hs rl =>
    refine ⟨"tuple", ?_, ⟨false, by decide +kernel, rfl⟩, ⟨false, by decide +kernel, rfl⟩, ⟨false, by decide +kernel, rfl⟩, ⟨true, by decide +kernel, rfl⟩⟩
    rcases hs with (hs | ⟨o, hs⟩) | ⟨o, its, n, h1, h2, _⟩
    · exact .base (.tup hs)
    · exact .fTuple hs
    · exact .kTuple h1 h2
  | lst hs => exact ⟨_, .base (.lst hs), ⟨false, by decide +kernel, rfl⟩, ⟨false, by decide +kernel, rfl⟩, ⟨false, by decide +kernel, rfl⟩, ⟨false, by decide +kernel, rfl⟩⟩
  | scr hs =>
    refine ⟨"list", ?_, ⟨false, by decide +kernel, rfl⟩, ⟨false, by decide +kernel, rfl⟩, ⟨false, by decide +kernel, rfl⟩, ⟨false, by decide +kernel, rfl⟩⟩
    rcases hs with ⟨o, hs⟩ | hs
    · exact .base (.frz hs)
    · rcases hs (fun _ => none) with (hs | ⟨o, hs⟩) | ⟨o, its, n, h1, h2, _⟩
      · cases hs
      · cases hs
      · exact .kList h1 h2
  | cel => exact absurd rfl (n1 _)
  | fn => exact absurd rfl (n2 _)
  | hof => exact absurd rfl n3
section
variable {e : Expr} {m : Env' → M D} {T : String} {g : D → M D} {x : Str} {p p2 pos : Pos}
theorem me_isi (hx : x = Str.ofString T) (hT : bootBuiltins x = some (.type T)) (hg : ∀ d v φ H st, Rp X.K G φ H d v → (g d st = .bad) ∨ ∃ T' b, TyX X.K H v (.type T') ∧ kitB T' T = some b ∧ g d st = .ok (.bl b) st) (h1 : X.mg "isinstance" = none) (h2 : X.mg x = none) (h : ME X G W e m)
    (g1 : Gl X "isinstance" := by rfl) (g2 : Gl X x := by rfl) (hn : x ≠ "__name__" := by decide) (hdb : (x == ("__debug__" : Str)) = false := by decide)
    (s1 : starEach [e, .Name x p2] X.env = (false, eval e X.env) :: starEach [.Name x p2] X.env := by rfl) (s2 : starEach [.Name x p2] X.env = (false, eval (.Name x p2) X.env) :: starEach [] X.env := by rfl)
    (hpl : (backTo pos (starEach [.Name x p2] X.env)).any (·.1) = false := by rfl) : ME X G W (.Call (.Name "isinstance" p) [e, .Name x p2] [] pos) (m1 g m) := by
  refine peImp (pe_callB call_isi g1 h1 (by decide +kernel) (pa_cons h (pa_cons (pe_bltn (v := .ty T) g2 h2 hT rfl hn hdb) pa_nil s2) s1) (by decide) (by decide) s1 hpl) fun σ H Q ⟨φ, ρ, st, so, p⟩ => ?_
  refine tM_of so (Post.bind p) fun d1 st1 φ1 H1 v1 x1 so1 r1 p1 => ?_
  rcases hg d1 v1 φ1 H1 st1 r1 with e0 | ⟨T', b, t1, t2, t3⟩
  · rw [e0] at p1
    exact p1.elim
  · rw [t3] at p1
    exact ⟨v1, .ty T, .type T', .type T, b, rfl, .ty T, t1, kit_ty t2, p1 φ1 H1 (Ext.refl _ _) so1.s _ .bl⟩
theorem isi_str (d : D) (v : V) (φ : List Addr) (H : Hp) (st : Store) (r : Rp X.K G φ H d v) : (dIsStr d st = .bad) ∨ ∃ T' b, TyX X.K H v (.type T') ∧ kitB T' "str" = some b ∧ dIsStr d st = .ok (.bl b) st := by
  cases d with
  | cel n => exact .inl rfl
  | fn n => exact .inl rfl
  | hof => exact .inl rfl
  | _ =>
    obtain ⟨T, t, ⟨b, h1, h2⟩, _⟩ := isi_of (st := st) r (fun _ z => by cases z) (fun _ z => by cases z) (fun z => by cases z)
    exact .inr ⟨T, b, t, h1, h2⟩
theorem isi_int (d : D) (v : V) (φ : List Addr) (H : Hp) (st : Store) (r : Rp X.K G φ H d v) : (dIsInt d st = .bad) ∨ ∃ T' b, TyX X.K H v (.type T') ∧ kitB T' "int" = some b ∧ dIsInt d st = .ok (.bl b) st := by
  cases d with
  | cel n => exact .inl rfl
  | fn n => exact .inl rfl
  | hof => exact .inl rfl
  | _ =>
    obtain ⟨T, t, _, ⟨b, h1, h2⟩, _⟩ := isi_of (st := st) r (fun _ z => by cases z) (fun _ z => by cases z) (fun z => by cases z)
    exact .inr ⟨T, b, t, h1, h2⟩
theorem isi_bool (d : D) (v : V) (φ : List Addr) (H : Hp) (st : Store) (r : Rp X.K G φ H d v) : (dIsBool d st = .bad) ∨ ∃ T' b, TyX X.K H v (.type T') ∧ kitB T' "bool" = some b ∧ dIsBool d st = .ok (.bl b) st := by
  cases d with
  | cel n => exact .inl rfl
  | fn n => exact .inl rfl
  | hof => exact .inl rfl
  | _ =>
    obtain ⟨T, t, _, _, ⟨b, h1, h2⟩, _⟩ := isi_of (st := st) r (fun _ z => by cases z) (fun _ z => by cases z) (fun z => by cases z)
    exact .inr ⟨T, b, t, h1, h2⟩
theorem isi_tup (d : D) (v : V) (φ : List Addr) (H : Hp) (st : Store) (r : Rp X.K G φ H d v) : (dIsTup d st = .bad) ∨ ∃ T' b, TyX X.K H v (.type T') ∧ kitB T' "tuple" = some b ∧ dIsTup d st = .ok (.bl b) st := by
  cases d with
  | cel n => exact .inl rfl
  | fn n => exact .inl rfl
  | hof => exact .inl rfl
  | _ =>
    obtain ⟨T, t, _, _, _, ⟨b, h1, h2⟩⟩ := isi_of (st := st) r (fun _ z => by cases z) (fun _ z => by cases z) (fun z => by cases z)
    exact .inr ⟨T, b, t, h1, h2⟩
end
/-! ### raise X('..') -/
def sRaise (c : Nat) : MS := fun ρ st => .exc c ρ st
theorem st_raise {x m : Str} {j c : Nat} {C : Addr} {p p2 pos pos2 : Pos} {bmB : List Value} {B newId initId : String} (hc : X.calm = true) (tk : L2N.Takes X W) (F : ExcBaseFacts B newId initId bmB) (q : PySem.W.excIn X.K C bmB newId = true) (gC : X.mg x = some (.ref C)) (kC : PySem.W.keepIn X.K (.ref C) = true)
    (r : Raises X (.ref C)) (hC : G.tb.exs c = C) (hg : Gl X x := by rfl) (hdb : (x == ("__debug__" : Str)) = false := by decide) : ST X G W (.Raise (some (.Call (.Name x p) [.Constant (.str m) j p2] [] pos)) none pos2) (sRaise c) := by
  refine psImp (L2N.ps_raise hc tk (L2N.pmk_own F q gC kC r hg hdb)) fun De σ H ⟨φ, ρ, st, so, pp⟩ => ?_
  have := pp φ H σ (Ext.refl _ _) so
  rw [hC] at this
  exact this
end
end DL
namespace DL
open PySem PySem.Spec PyProof.Rows L2
/-! ### what the printed walks lean on -/
/-- a def of the module under its name, its promise -/
def Cal (P : Program) (w : World) (K : PySem.W.Frag) (mg : Str → Option Value) (base : Heap) (k : Nat) (x : Str) (sp : Sp) : Prop :=
  ∃ fd ps, FnOk P w K mg base (L2N.CX P w) k (He.ga K x) fd ps sp ∧ L2.Binds K fd ps [] ∧ PySem.W.keepIn K (.ref (He.ga K x)) = true ∧ mg x = some (.ref (He.ga K x))
section
variable {X : Cx} {G : Gx} {W : WX} {j k n i : Nat} {m : List D → M D} {x : Str} {p pos : Pos}
theorem me_cal {e : Expr} {es : List Expr} {ms : Env' → M (List D)} (c : Cal X.prog X.w X.K X.mg X.base k x (spM X.K G n m)) (hr : Room j X.A) (hk : k ≤ j) (tk : L2N.Takes X W) (ha : MA X G W (e :: es) ms) (hg : Gl X x := by rfl) (hdb : (x == ("__debug__" : Str)) = false := by decide)
    (he : starEach (e :: es) X.env = (false, eval e X.env) :: starEach es X.env := by rfl) (hpl : (backTo pos (starEach es X.env)).any (·.1) = false := by rfl) : ME X G W (.Call (.Name x p) (e :: es) [] pos) (mCall n m ms) := by
  obtain ⟨fd, ps, F, b, kp, mx⟩ := c
  exact me_call F (hr.mono hk) mx kp b tk ha hg hdb he hpl
theorem me_cal0 (c : Cal X.prog X.w X.K X.mg X.base k x (spM X.K G 0 m)) (hr : Room j X.A) (hk : k ≤ j) (hg : Gl X x := by rfl) (hdb : (x == ("__debug__" : Str)) = false := by decide) : ME X G W (.Call (.Name x p) [] [] pos) (mCall0 m) := by
  obtain ⟨fd, ps, F, b, kp, mx⟩ := c
  exact me_call0 F (hr.mono hk) mx kp b hg hdb
/-- a number of the module -/
theorem me_gi {v : Int} (h : ∃ t, X.mg x = some (.int v t)) (hg : Gl X x := by rfl) (hdb : (x == ("__debug__" : Str)) = false := by decide) : ME X G W (.Name x pos) (cst (.int v)) := by
  obtain ⟨t, h⟩ := h
  exact me_c (pe_glob (v := .int v) hg h ⟨t, rfl⟩ hdb) fun _ _ => .int
/-- a def as a value -/
theorem me_gfn {f : Addr} (h : X.mg x = some (.ref f)) (hf : G.tb.fns[k]? = some f) (hg : Gl X x := by rfl) (hdb : (x == ("__debug__" : Str)) = false := by decide) : ME X G W (.Name x pos) (cst (.fn k)) :=
  me_c (pe_glob (v := .ref f) hg h rfl hdb) fun _ _ => .fn hf
theorem v_ (i : Nat) (hN : X.N[i]? = some x := by rfl) (hv : Vis X.env.scope x := by first | exact Or.inl rfl | exact Or.inr (Or.inl rfl) | exact Or.inr (Or.inr rfl)) (hd : (x == ("__debug__" : Str)) = false := by decide)
    (hcd : (x == ("__classdict__" : Str)) = false := by decide) : ME X G W (.Name x pos) (vr i) := me_vr (pe_var hN hv hd hcd)
theorem g_ (i : Nat) (nd : X.N.Nodup) (hi : X.N[i]? = some x := by rfl) (hx : Loc X.env.scope x := by first | exact Or.inl rfl | exact Or.inr rfl) (hf : X.fn x = true ∨ X.env.scope.names.lookup x = some .local := by first | exact .inl rfl | exact .inr rfl) :
    GT X G (.Name x pos) (gNm i) := gt_name (pg_name nd hi hx hf)
theorem pn_ (i : Nat) (nd : X.N.Nodup) (hi : X.N[i]? = some x := by rfl) (hx : Loc X.env.scope x := by first | exact Or.inl rfl | exact Or.inr rfl) (hf : X.fn x = true ∨ X.env.scope.names.lookup x = some .local := by first | exact .inl rfl | exact .inr rfl) :
    PG X (.Name x pos) (gName i) := pg_name nd hi hx hf
end
theorem hu65 {k : Nat} {A : Around} (hr : Room k A) : A.units + 65 < cLine := by have := hr.un; omega
theorem hu64 {k : Nat} {A : Around} (hr : Room k A) : A.units + 64 < cLine := by have := hr.un; omega
/-- so many turns as the number in a slot tells -/
def fuelN (i : Nat) : Env' → Store → Nat := fun ρ _ => match ρ[i]? with
  | some (some (.int k)) => k.natAbs + 2
  | _ => 0
end DL
namespace DL
open PySem PySem.Spec PyProof.Rows L2
/-! ### values without the handed def -/
mutual
def D.nh : D → Bool
  | .hof => false
  | .tup xs => D.nhL xs
  | .lst xs => D.nhL xs
  | .scr xs => D.nhL xs
  | _ => true
def D.nhL : List D → Bool
  | [] => true
  | x :: xs => D.nh x && D.nhL xs
end
def nhF : List (Str × D) → Bool
  | [] => true
  | p :: r => D.nh p.2 && nhF r
def nhK : List (Key × D) → Bool
  | [] => true
  | p :: r => D.nh p.2 && nhK r
def Cell.nh : Cell → Bool
  | .lst xs => D.nhL xs
  | .dct kvs => nhK kvs
  | .dctL kvs => nhK kvs
  | .ins _ fs => nhF fs
def nhS : Store → Bool
  | [] => true
  | c :: r => Cell.nh c && nhS r
theorem nhS_at : ∀ {st : Store} {n : Nat} {c : Cell}, nhS st = true → st[n]? = some c → Cell.nh c = true
  | [], _, _, _, e => by simp at e
  | a :: r, 0, c, h, e => by
    have e1 : a = c := Option.some.inj e
    subst e1
    exact (Bool.and_eq_true_iff.mp h).1
  | a :: r, n + 1, c, h, e => nhS_at (Bool.and_eq_true_iff.mp h).2 (show r[n]? = some c from e)
section
variable {K : PySem.W.Frag} {G G' : Gx} {φ : List Addr} {H : Hp}
mutual
theorem Rp.sw (e : G'.tb = G.tb) (ef : G'.fx = G.fx) : ∀ {d : D} {v : V}, D.nh d = true → Rp K G φ H d v → Rp K G' φ H d v
  | _, _, _, .non => .non
  | _, _, _, .bl => .bl
  | _, _, _, .int => .int
  | _, _, _, .str h => .str h
  | .tup xs, _, h, .tup a r => .tup a (RpL.sw e ef (by simpa [D.nh] using h) r)
  | .lst xs, _, h, .lst a n z r => .lst a n (by rw [ef]; exact z) (RpL.sw e ef (by simpa [D.nh] using h) r)
  | .scr xs, _, h, .scr a r => .scr a (RpL.sw e ef (by simpa [D.nh] using h) r)
  | _, _, _, .cel h => .cel h
  | _, _, _, .fn h => .fn (by rw [e]; exact h)
  | .hof, _, h, .hof _ => by simp [D.nh] at h
theorem RpL.sw (e : G'.tb = G.tb) (ef : G'.fx = G.fx) : ∀ {ds : List D} {vs : List V}, D.nhL ds = true → RpL K G φ H ds vs → RpL K G' φ H ds vs
  | _, _, _, .nil => .nil
  | _, _, h, .cons a r => by
    have h1 := Bool.and_eq_true_iff.mp (show (_ && _) = true from h)
    exact .cons (Rp.sw e ef h1.1 a) (RpL.sw e ef h1.2 r)
end
theorem RpF.sw (e : G'.tb = G.tb) (ef : G'.fx = G.fx) : ∀ {ds : List (Str × D)} {vs : List (Str × V)}, nhF ds = true → RpF K G φ H ds vs → RpF K G' φ H ds vs
  | _, _, _, .nil => .nil
  | _, _, h, .cons a r => by
    have h1 := Bool.and_eq_true_iff.mp (show (_ && _) = true from h)
    exact .cons (Rp.sw e ef h1.1 a) (RpF.sw e ef h1.2 r)
theorem RpK.sw (e : G'.tb = G.tb) (ef : G'.fx = G.fx) : ∀ {ds : List (Key × D)} {vs : List (Key × V)}, nhK ds = true → RpK K G φ H ds vs → RpK K G' φ H ds vs
  | _, _, _, .nil => .nil
  | _, _, h, .cons a r => by
    have h1 := Bool.and_eq_true_iff.mp (show (_ && _) = true from h)
    exact .cons (Rp.sw e ef h1.1 a) (RpK.sw e ef h1.2 r)
theorem CellOk.sw (e : G'.tb = G.tb) (ef : G'.fx = G.fx) {c : Cell} {o : HO} (n : Cell.nh c = true) (h : CellOk K G φ H c o) : CellOk K G' φ H c o := by
  cases h with
  | lst r => exact .lst (r.sw e ef n)
  | dct r => exact .dct (r.sw e ef n)
  | dctZ r => exact .dctZ (r.sw e ef n)
  | ins r =>
    rw [← e]
    exact .ins (r.sw e ef n)
theorem StOk.sw {st : Store} (e : G'.tb = G.tb) (ef : G'.fx = G.fx) (n : nhS st = true) (s : StOk K G φ H st) (a : Ext G'.φ0 G'.H0 φ H) : StOk K G' φ H st where
  len := s.len
  nd := s.nd
  cell := fun i c b h1 h2 => by
    obtain ⟨o, q, r⟩ := s.cell i c b h1 h2
    exact ⟨o, q, r.sw e ef (nhS_at n h1)⟩
  tabs := by rw [e]; exact s.tabs
  anc := a
  fx := by rw [ef]; exact s.fx
  fd := by rw [ef]; exact s.fd
end
/-- neither the handed def in it, nor in what stands -/
def hfr (m : M D) : M D := fun st => match nhS st with
  | false => .bad
  | true => (match m st with
    | .ok d st' => (match D.nh d && nhS st' with
      | true => .ok d st'
      | false => .bad)
    | .exc c st' => (match nhS st' with
      | true => .exc c st'
      | false => .bad)
    | .bad => .bad)
theorem hfr_nh {m : M D} {st : Store} (h : hfr m st ≠ .bad) : nhS st = true := by
  unfold hfr at h
  cases q : nhS st with
  | true => rfl
  | false => rw [q] at h; exact absurd rfl h
theorem Post.sw {K : PySem.W.Frag} {G G' : Gx} {W : WX} {σ : St} {φ : List Addr} {H : Hp} {m : M D} {st : Store} {Q : VK} (e : G'.tb = G.tb) (ef : G'.fx = G.fx) (a : Ext G'.φ0 G'.H0 φ H)
    (h : Post K G' W σ φ H (hfr m st) fun d _ φ' H' => ∀ v, Rp K G' φ' H' d v → Q v H') : nhS st = true ∧ Post K G W σ φ H (m st) fun d _ φ' H' => ∀ v, Rp K G φ' H' d v → Q v H' := by
  have hb : hfr m st ≠ .bad := fun q => by rw [q] at h; exact h.elim
  have n := hfr_nh hb
  refine ⟨n, ?_⟩
  unfold hfr at h
  rw [n] at h
  cases q : m st with
  | ok d st' =>
    rw [q] at h
    cases k : D.nh d && nhS st' with
    | false => simp only [k] at h; exact h.elim
    | true =>
      simp only [k] at h
      obtain ⟨k1, k2⟩ := Bool.and_eq_true_iff.mp k
      exact fun φ2 H2 x s v r => h φ2 H2 x (s.sw e ef k2 (a.trans x)) v (r.sw e ef k1)
  | exc c st' =>
    rw [q] at h
    cases k : nhS st' with
    | false => simp only [k] at h; exact h.elim
    | true =>
      simp only [k] at h
      intro φ2 H2 x s
      have := h φ2 H2 x (s.sw e ef k (a.trans x))
      rw [e] at this
      exact this
  | bad => rw [q] at h; exact h.elim
/-! ### the end of a def's body, from its run -/
theorem runB_post {K : PySem.W.Frag} {G : Gx} {E : XK} {φ : List Addr} {H : Hp} {fr : Bool} {len n : Nat} {b : MS} {ds : List D} {st0 : Store} {Q : VK} (so : StOk K G φ H st0)
    (p : Post K G (WofE E) [] φ H (runB fr len n b ds st0) fun d _ φ' H' => ∀ v, Rp K G φ' H' d v → Q v H') : PostS K G (WofE E) φ H (b (ds.map some ++ List.replicate (len - n) none) st0) { nx := fun _ H' => Q .non H', rt := Q } := by
  unfold runB at p
  cases c : decide (ds.length = n) with
  | false => rw [c] at p; exact p.elim
  | true =>
    rw [c] at p
    cases q : b (ds.map some ++ List.replicate (len - n) none) st0 with
    | nx ρ' st' =>
      rw [q] at p
      intro φ' H' σ' x' s'
      cases fr with
      | true => exact endOk_post so x' s'.s .non p
      | false => exact p φ' H' x' s'.s _ .non
    | rt d st' =>
      rw [q] at p
      intro φ' H' v x' s' r
      cases fr with
      | true => exact endOk_post so x' s' r p
      | false => exact p φ' H' x' s' _ r
    | exc c ρ' st' =>
      rw [q] at p
      intro φ' H' σ' x' s'
      cases fr with
      | true => exact endEx_post (σ := []) so x' s'.s p
      | false => exact p φ' H' x' s'.s
    | bk _ _ => rw [q] at p; exact p.elim
    | ct _ _ => rw [q] at p; exact p.elim
    | bad => rw [q] at p; exact p.elim
/-! ### a lambda is made -/
section
variable {X : Cx} {pins : List (Addr × Obj)} {σ : L2.St} {H : Hp} {s : Shared}
/-- what the making leaves -/
def LamH (P c' : Addr) (q : Str) (H H1 : Hp) : Prop := H1 = H ∨ ∃ ps more, H P = some (.tbl ps) ∧ H c' = none ∧ H1 = upd (upd H P (.tbl (ps ++ more))) c' (LamX.CodeO c' q)
theorem LamH.keep {P c' : Addr} {q : Str} {H H1 : Hp} (l : LamH P c' q H H1) {b : Addr} {o : HO} (h : H b = some o) (n : ∀ ps, o ≠ .tbl ps) : H1 b = some o := by
  rcases l with rfl | ⟨ps, more, e1, e2, rfl⟩
  · exact h
  · rw [upd_ne (ne_of_none h e2), upd_ne (fun z => by rw [z, e1] at h; exact n ps (Option.some.inj h).symm)]
    exact h
theorem LamH.ext {P c' : Addr} {q : Str} {H H1 : Hp} {φ : List Addr} (l : LamH P c' q H H1) : Ext φ H φ H1 := by
  refine ⟨⟨[], by simp, by simp⟩, fun a o h _ n => l.keep h n, fun a xs h => l.keep h (fun _ z => by cases z), fun a o u h => l.keep h (fun _ z => by cases z), fun a h => ?_⟩
  rcases l with rfl | ⟨ps, more, e1, e2, rfl⟩
  · exact h
  · by_cases h1 : a = c'
    · rw [h1, upd_same]
      simp
    · rw [upd_ne h1]
      by_cases h2 : a = P
      · rw [h2, upd_same]
        simp
      · rw [upd_ne h2]
        exact h
theorem lam_makeD {T : List (Addr × Str)} {c P : Addr} {params : Arguments} {body : Expr} {scope : Scope} {pos : Pos} {E : Value → Shared → Prop} {Q : Value → Shared → Prop} (I : Inv X pins σ H s) (B : LamX.TabB X.base X.mg c P) (hco : X.env.code = .ref c)
    (hm : (P, X.env.qual ++ "<lambda>") ∈ T) (hu : ∀ y ∈ T, y.1 = P → y.2 = X.env.qual ++ "<lambda>") (hT : LamX.Tabs T H) (hde : defaultsOf params X.env = ([], [])) (hfr : ∀ y ∈ scope.names, y.2 = .free → ∃ u, X.env.cells.lookup y.1 = some u)
    (h : ∀ (f c' : Addr) (pm ctv : Value) (H1 : Hp) (s' : Shared), Inv X pins σ H1 s' → LamH P c' (X.env.qual ++ "<lambda>") H H1 → LamX.Tabs T H1 →
      s'.heap.get? f = some (PySem.W.kla_obj "<lambda>" (X.env.qual ++ "<lambda>") params body scope (cloFrom X.env.cells scope.names []) pm c' ctv) → H1 f = none → f ∉ frs X.stack → H1 c' = some (LamX.CodeO c' (X.env.qual ++ "<lambda>")) → Q (.ref f) s') :
    wpAny (model X.prog X.w) X.A (eval (.Lambda params body scope pos) X.env) Q E s := by
  obtain ⟨tb, eP, tri, inT⟩ := hT _ hm
  have gP : s.heap.get? P = some { cls := .none, data := .fields tb } := I.hok P _ eP
  have out : ∀ f, s.heap.objs.size ≤ f → f ∉ frs X.stack := fun f hf z => (List.mem_cons.mp (I.stkSub _ z)).elim (fun e => absurd (Nat.lt_of_lt_of_le I.lt (e ▸ hf)) (Nat.lt_irrefl _)) fun e => I.nofs hf e
  refine PySem.W.kla_eval hde ?_
  cases q : codeAmong pos tb.toList with
  | some cv =>
    obtain ⟨c', rfl, hc⟩ := inT pos cv q
    exact PySem.W.kla_makeFunctionHit (mg := X.mg) (c := c) (P := P) (ps := tb) (closure_ok hfr) I.ok.glob (I.mod.glob.keeps I.bk) hco (B.code.keeps I.bk) gP tri q (B.bm.keeps I.bk) fun ctv g tk up sz =>
      h g.objs.size c' _ ctv H _ (I.kept (t' := tk) fun b o e => Heap.get?_push_of_some _ (up b o e)) (.inl rfl) hT (Heap.get?_push_size _ rfl) (I.hok.fresh sz) (out _ sz) hc
  | none =>
    refine PySem.W.kla_makeFunction (mg := X.mg) (c := c) (P := P) (ps := tb) (closure_ok hfr) I.ok.glob (I.mod.glob.keeps I.bk) hco (B.code.keeps I.bk) gP tri q B.gP (B.bm.keeps I.bk) fun c' ctv g tk up ge lt rec tbl => ?_
    obtain ⟨c2, oc, vs, t, ec, g2, d2, v2⟩ := rec
    cases ec
    have sz : s.heap.objs.size ≤ g.objs.size := Nat.le_trans ge (Nat.le_of_lt lt)
    have nc : H c' = none := I.hok.fresh ge
    have lh : LamH P c' (X.env.qual ++ "<lambda>") H (upd (upd H P (.tbl (tb ++ #[rawInt pos.line, rawInt pos.col, .ref c']))) c' (LamX.CodeO c' (X.env.qual ++ "<lambda>"))) := .inr ⟨tb, _, eP, nc, rfl⟩
    have J := LamX.inv_table (q := X.env.qual ++ "<lambda>") (t' := tk) (more := #[rawInt pos.line, rawInt pos.col, .ref c']) (h' := g.push (PySem.W.kla_obj "<lambda>" (X.env.qual ++ "<lambda>") params body scope (cloFrom X.env.cells scope.names []) ((X.mg "__name__").getD .none) c' ctv)) I eP
      (fun b o hb e => Heap.get?_push_of_some _ (up b o hb e)) (Heap.get?_push_of_some _ tbl) ge ⟨oc, vs, t, Heap.get?_push_of_some _ g2, d2, v2⟩
    have el : (tb ++ #[rawInt pos.line, rawInt pos.col, .ref c']).toList = tb.toList ++ [rawInt pos.line, rawInt pos.col, .ref c'] := by simp
    have nf : g.objs.size ≠ c' := Nat.ne_of_gt lt
    have nP : g.objs.size ≠ P := Nat.ne_of_gt (Nat.lt_of_lt_of_le (Heap.lt_size gP) sz)
    have cP : P ≠ c' := ne_of_none eP nc
    refine h g.objs.size c' _ ctv _ _ J lh (fun y hy => ?_) (Heap.get?_push_size _ rfl) (by rw [upd_ne nf, upd_ne nP]; exact I.hok.fresh sz) (out _ sz) upd_same
    by_cases hb : y.1 = P
    · refine ⟨tb ++ #[rawInt pos.line, rawInt pos.col, .ref c'], by rw [hb, upd_ne cP, upd_same], by rw [el]; exact PySem.TriplesOk_snoc _ _ _ _ tri, fun p2 cv hcv => ?_⟩
      rw [el] at hcv
      rw [hu y hy hb]
      rcases LamX.among_app _ tri hcv with z | z
      · obtain ⟨c0, a1, a2⟩ := inT p2 cv z
        exact ⟨c0, a1, lh.keep a2 LamX.codeO_ne⟩
      · exact ⟨c', z, upd_same⟩
    · obtain ⟨tb2, a1, a2, a3⟩ := hT y hy
      refine ⟨tb2, by rw [upd_ne (ne_of_none a1 nc), upd_ne hb]; exact a1, a2, fun p2 cv hcv => ?_⟩
      obtain ⟨c0, b1, b2⟩ := a3 p2 cv hcv
      exact ⟨c0, b1, lh.keep b2 LamX.codeO_ne⟩
end
end DL
namespace DL
open PySem PySem.Spec PyProof.Rows L2
/-! ### a lambda without parameters, handed to a def that calls it -/
/-- the context of the lambda's body -/
abbrev lamN (X : Cx) (A : Around) (outer : List Env) (s : Shared) (H : Hp) (E : XK) (scope : Scope) (f c' : Addr) : Cx :=
  (LamX.lamCx X A outer s H E scope f c').tr ([] ++ []) fun e s' => wpAny (model X.prog X.w) (A.deeper (LamX.lamEnv X scope s.heap.objs.size f c')) (leaving (LamX.lamEnv X scope s.heap.objs.size f c') e)
    (fun _ s'' => L2N.CX X.prog X.w outer H s E e s'') (fun e' s'' => L2N.CX X.prog X.w outer H s E e' s'') s'
/-- the handed def as the callee sees it: in slot 0 -/
def actM (m : M D) (ρ : Env') : M D := match ρ[0]? with
  | some (some D.hof) => hfr m
  | _ => fail
section
variable {X : Cx} {pins : List (Addr × Obj)} {σ : L2.St} {H : Hp} {s : Shared} {G : Gx} {φ : List Addr} {ρ : Env'} {st : Store}
theorem ext_no {p : Addr} {q : Str} (so : StOk X.K G φ H st) (h : H p = some (LamX.CodeO p q)) : p ∉ φ := fun hm => by
  obtain ⟨i, hi, e⟩ := List.getElem_of_mem hm
  have h2 : i < st.length := by rw [← so.len]; exact hi
  obtain ⟨o, e1, r⟩ := so.cell i st[i] p (List.getElem?_eq_getElem h2) (by rw [List.getElem?_eq_getElem hi, e])
  rw [h] at e1
  cases e1
  unfold LamX.CodeO at r
  generalize st[i] = cc at r
  cases r
/-- the callee's world -/
abbrev Gx.hand (G : Gx) (f : Addr) (φ : List Addr) (H : Hp) : Gx := { G with hf := some f, φ0 := φ, H0 := H }
theorem act_of {Ng : List Str} {qg : Str} {sg : Scope} {g f c' : Addr} {cdg pm ctv : Value} {params : Arguments} {body : Expr} {scope : Scope} {k : Nat} {a : Str} {Eg : XK} {m : Env' → M D}
    (I : Inv X pins σ H s) (L : LamX.LamS X.env.scope scope) (hf : s.heap.get? f = some (PySem.W.kla_obj "<lambda>" (X.env.qual ++ "<lambda>") params body scope (cloFrom X.env.cells scope.names []) pm c' ctv)) (hfn : H f = none) (hfs : f ∉ frs X.stack)
    (hc : H c' = some (LamX.CodeO c' (X.env.qual ++ "<lambda>")))
    (hbi : bindArgs (PySem.W.kla_fn "<lambda>" (X.env.qual ++ "<lambda>") params body scope (cloFrom X.env.cells scope.names []) pm (.ref c') ctv) ⟨[], []⟩ = pure [])
    (hr : Room (k + 1) (X.A.deeper (envOfC qg sg s.heap.objs.size g cdg)))
    (hbody : ∀ (A : Around) (outer : List Env) (s : Shared) (H : Hp) (E : XK), Room k (A.deeper (LamX.lamEnv X scope s.heap.objs.size f c')) → ME (lamN X A outer s H E scope f c') G (WofE E) body m)
    (so : SOk X.K G φ H σ ρ st) (hN : Ng[0]? = some a) (hv : Vis sg a) (hd : (a == ("__debug__" : Str)) = false) (hcd : (a == ("__classdict__" : Str)) = false)
    {W : WX} {pn : List (Addr × Obj)} {xe : Value → Shared → Prop} {p1 p2 : Pos} (tk : L2N.Takes ((cxOf (L2N.CX X.prog X.w) X.prog X.w X.K X.mg X.base Ng qg sg g cdg X.A X.stack s H Eg).tr pn xe) W) :
    ME ((cxOf (L2N.CX X.prog X.w) X.prog X.w X.K X.mg X.base Ng qg sg g cdg X.A X.stack s H Eg).tr pn xe) (G.hand f φ H) W (.Call (.Name a p1) [] [] p2) (actM (m ρ)) := by
  refine ⟨fun pz sz σz Hz Q Iz ⟨φz, ρz, stz, soz, pp⟩ => ?_⟩
  -- the callee's slot
  unfold actM at pp
  cases e0 : ρz[0]? with
  | none => rw [e0] at pp; exact pp.elim
  | some od =>
    cases od with
    | none => rw [e0] at pp; exact pp.elim
    | some d =>
      cases d with
      | hof =>
        rw [e0] at pp
        obtain ⟨v0, hs0, r0⟩ := soz.e.get 0 .hof e0
        have ev : v0 = .ref f := by
          cases r0 with
          | hof q => cases q; rfl
        subst ev
        refine wpAny_Call_Name_kw (thn ((pe_var (pos := p1) (i := 0) hN hv hd hcd).run pz sz σz Hz (fun v H1 => v = .ref f ∧ H1 = Hz) Iz ⟨.ref f, hs0, rfl, rfl⟩) fun u s1 ⟨v, H1, I1, r1, q1⟩ => ?_)
        obtain ⟨ev, eH⟩ := q1
        subst ev eH
        obtain rfl : u = Value.ref f := r1
        have of1 : s1.heap.get? f = some (PySem.W.kla_obj "<lambda>" (X.env.qual ++ "<lambda>") params body scope (cloFrom X.env.cells scope.names []) pm c' ctv) := I1.base.keep f _ hf hfn hfs (fun z => nomatch (show f ∈ ([] : List Addr) from z))
        refine PySem.W.callWith_F0 ⟨_, _, _, _, of1⟩ ?_
        have xz : Ext φ H φz H1 := soz.s.anc
        have hcz : H1 c' = some (LamX.CodeO c' (X.env.qual ++ "<lambda>")) := xz.keep _ _ hc (ext_no so.s hc) LamX.codeO_ne
        obtain ⟨⟨oc, vs, t, hoc, hdc, hvc⟩, _, _⟩ := I1.hok c' _ hcz
        have un : Un (frs X.stack) [] H H1 s.heap s1.heap := I1.base
        obtain ⟨nh, pb⟩ := Post.sw (G := G) (G' := G.hand f φ H) rfl rfl xz pp
        have sz2 : StOk X.K G φz H1 stz := soz.s.sw (G := G.hand f φ H) (G' := G) rfl rfl nh (so.s.anc.trans xz)
        have rc : codeAny (model X.prog X.w) (X.A.deeper (envOfC qg sg s.heap.objs.size g cdg)) (.call (.ref f) ⟨[], []⟩) (CR (L2N.CX X.prog X.w) (envOfC qg sg s.heap.objs.size g cdg :: X.stack) X.prog X.w H1 s1 Q (WE W σz)) s1 := by
          refine PySem.W.kla_callFunE hr.depth of1 rfl L.co L.gen rfl ⟨c', oc, vs, t, rfl, hoc, hdc, hvc⟩ ?_
          rw [hbi]
          refine wpAny_pure (wpAny_newFunctionEnv (fun y hy => (L.own y hy).2) (fun y hy => absurd hy (by simp)) (fun g1 ns sb => ⟨I1.nolimit.fresh _ sb, ?_⟩) L.kind)
          show codeAny _ _ (.expr body (LamX.lamEnv X scope s1.heap.objs.size f c')) _ _
          have kp : ∀ b o, s1.heap.get? b = some o → g1.get? b = some o := fun b o e => sb.extBut b o (Nat.ne_of_lt (Heap.lt_size e)) (Heap.get?_push_of_some _ e)
          have J := LamX.lam_start2 (E := WE W σz) (tk := s1.toks + ([] : List (Str × Value)).length) (f := f) (c' := c') I L I1.env0 hr.hd un ns kp
          have J2 := J.toTry (fun e s' => wpAny (model X.prog X.w) ((X.A.deeper (envOfC qg sg s.heap.objs.size g cdg)).deeper (LamX.lamEnv X scope s1.heap.objs.size f c')) (leaving (LamX.lamEnv X scope s1.heap.objs.size f c') e)
            (fun _ s'' => L2N.CX X.prog X.w (envOfC qg sg s.heap.objs.size g cdg :: X.stack) H1 s1 (WE W σz) e s'') (fun e' s'' => L2N.CX X.prog X.w (envOfC qg sg s.heap.objs.size g cdg :: X.stack) H1 s1 (WE W σz) e' s'') s')
          refine PySem.W.kla_codeExpr (wpAny_mono ((hbody _ _ s1 H1 (WE W σz) (hr.deeper _)).run [] _ σ H1 Q J2 ⟨φz, ρ, stz, ⟨sz2, so.e.mono xz⟩, ?_⟩) (fun v s' hq => ?_) fun e s' hq => hq)
          · cases q : m ρ stz with
            | ok d st' => rw [q] at pb; exact pb
            | exc c st' => rw [q] at pb; exact pb
            | bad => rw [q] at pb; exact pb
          · obtain ⟨w', H', J', rv, q⟩ := hq
            exact ⟨w', H', J'.os, J'.bare, J'.base, J'.hok, rv, q⟩
        refine wpAny_call (codeAny_mono rc fun r s' hq => ?_)
        cases r with
        | error e => exact L2N.passAt tk σz pz H1 s1 e s' I1 hq
        | ok fl =>
          cases fl with
          | ret u => exact I1.after hq
          | next => exact False.elim hq
          | brk => exact False.elim hq
          | cont => exact False.elim hq
      | _ => rw [e0] at pp; exact pp.elim
end
/-- f(lambda: ..) -/
def mLam (len : Nat) (bg : (Env' → M D) → MS) (m : Env' → M D) (ρ : Env') : M D := hfr fun st => runB true len 1 (bg (actM (m ρ))) [.hof] st
/-- what a def does with the def it is handed -/
def Gives (P : Program) (w : World) (K : PySem.W.Frag) (mg : Str → Option Value) (base : Heap) (k : Nat) (x a : Str) (Ng : List Str) (bg : (Env' → M D) → MS) (tb : Tb) : Prop :=
  ∃ (st : Stmt) (fd : FuncData), L2.Fun K x x st (He.ga K x) fd ∧ FnScope Ng [a] (defScope st) ∧ mg x = some (.ref (He.ga K x)) ∧ L2.Binds K fd [a] [] ∧ Vis (defScope st) a ∧
    ∀ (cdv : Value) (A : Around) (outer : List Env) (s : Shared) (H : Hp) (E : XK) (G : Gx) (act : Env' → M D), Room k (A.deeper (envOfC x (defScope st) s.heap.objs.size (He.ga K x) cdv)) → G.tb = tb →
      (∀ (W : WX) (pn : List (Addr × Obj)) (xe : Value → Shared → Prop) (p1 p2 : Pos), L2N.Takes ((cxOf (L2N.CX P w) P w K mg base Ng x (defScope st) (He.ga K x) cdv A outer s H E).tr pn xe) W →
        ME ((cxOf (L2N.CX P w) P w K mg base Ng x (defScope st) (He.ga K x) cdv A outer s H E).tr pn xe) G W (.Call (.Name a p1) [] [] p2) act) →
      SS (cxOf (L2N.CX P w) P w K mg base Ng x (defScope st) (He.ga K x) cdv A outer s H E) G (WofE E) (defBody st) (bg act)
theorem me_lam {X : Cx} {G : Gx} {W : WX} {k kb len : Nat} {x a : Str} {Ng : List Str} {bg : (Env' → M D) → MS} {c P : Addr} {params : Arguments} {body : Expr} {scope : Scope} {m : Env' → M D} {p lpos pos : Pos}
    (gv : Gives X.prog X.w X.K X.mg X.base k x a Ng bg G.tb) (hr : Room (k + 1) X.A) (hkb : kb + 1 ≤ k) (tk : L2N.Takes X W) (B : LamX.TabB X.base X.mg c P) (hco : X.env.code = .ref c) (hmT : (P, X.env.qual ++ "<lambda>") ∈ G.tb.tabs)
    (hu : ∀ y ∈ G.tb.tabs, y.1 = P → y.2 = X.env.qual ++ "<lambda>") (L : LamX.LamS X.env.scope scope)
    (hbody : ∀ (A : Around) (outer : List Env) (s : Shared) (H : Hp) (E : XK) (f c' : Addr), Room kb (A.deeper (LamX.lamEnv X scope s.heap.objs.size f c')) → ME (lamN X A outer s H E scope f c') G (WofE E) body m)
    (hde : defaultsOf params X.env = ([], []) := by rfl)
    (hbi : ∀ (q : Str) (cl : List (Str × Addr)) (pm cv ctv : Value), bindArgs (PySem.W.kla_fn "<lambda>" q params body scope cl pm cv ctv) ⟨[], []⟩ = pure [] := by intro _ _ _ _ _; rfl)
    (hlen : Ng.length = len := by rfl) (h0 : Ng[0]? = some a := by rfl) (hg : Gl X x := by rfl) (hdb : (x == ("__debug__" : Str)) = false := by decide) (hd : (a == ("__debug__" : Str)) = false := by decide) (hcd : (a == ("__classdict__" : Str)) = false := by decide) :
    ME X G W (.Call (.Name x p) [.Lambda params body scope lpos] [] pos) (mLam len bg m) := by
  obtain ⟨stg, fd, F, Sg, hm, hb, hva, give⟩ := gv
  refine ⟨fun pins s σ H Q I ⟨φ, ρ, st, so, pp⟩ => ?_⟩
  have pins2 : Nonempty Unit := ⟨()⟩
  refine wpAny_Call_Name_kw (ld_glob I hg hm ?_ hdb)
  refine PySem.W.callWith_K (h₀ := X.base) I.ok.mod.kin F.kp ?_ (by rfl) (by rfl)
  show wpAny _ _ (spliced ((false, eval (.Lambda params body scope lpos) X.env) :: backTo pos (starEach [] X.env))) _ _ s
  refine Calls.spliced_cons (lam_makeD I B hco hmT hu so.s.tabs hde (L.has I.ok) fun f c' pm ctv H1 s' I1 lh T1 hf hfn hfs hcc => ?_)
  refine Calls.spliced_nil ⟨I1.kIn, ?_⟩
  have x1 : Ext φ H φ H1 := lh.ext
  have so1 : SOk X.K G φ H1 σ ρ st := ⟨⟨so.s.len, so.s.nd, fun n cc b h1 h2 => by
    obtain ⟨o, e, r⟩ := so.s.cell n cc b h1 h2
    exact ⟨o, lh.keep e (fun ps z => by
      subst z
      generalize cc = c2 at r
      cases r), r.mono x1⟩, T1, so.s.anc.trans x1, fun b hb => x1.there b (so.s.fx b hb), so.s.fd⟩, so.e.mono x1⟩
  have p1 := Post.ext x1 pp
  -- what the callee is to do
  have anc : Ext φ H1 φ H1 := Ext.refl _ _
  have flip := Post.sw (G := G.hand f φ H1) (G' := G) rfl rfl so1.s.anc p1
  obtain ⟨nh, pb⟩ := flip
  have s2 : StOk X.K (G.hand f φ H1) φ H1 st := so1.s.sw (G := G) (G' := G.hand f φ H1) rfl rfl nh anc
  obtain ⟨oc, od, kV, doc, pmv, an, cdv, ct, osl, rfl, lk, hcd'⟩ := F.ex
  have rc : codeAny (model X.prog X.w) X.A (.call (.ref (He.ga X.K x)) ⟨[.ref f], []⟩) (CR (L2N.CX X.prog X.w) X.stack X.prog X.w H1 s' Q (WE W σ)) s' := by
    have hbs := hb s' [.ref f] I1.kIn rfl
    refine LamX.run_ofS (N := Ng) (ps := [a]) (us := [.ref f]) (vs := [.ref f]) lk hcd' Sg hr I1.env0 hbs (.cons rfl .nil) rfl fun hr' => ?_
    refine ⟨_, give cdv X.A X.stack s' H1 (WE W σ) (G.hand f φ H1) (actM (m ρ)) hr' rfl fun W2 pn xe p1 p2 tk2 => act_of I1 L hf hfn hfs hcc (hbi _ _ _ _ _) (hr'.mono hkb) (fun A outer s H E hr3 => hbody A outer s H E f c' hr3) so1 h0 hva hd hcd tk2, ?_⟩
    refine ⟨φ, [some .hof] ++ List.replicate (len - 1) none, st, ⟨s2, ?_⟩, ?_⟩
    · rw [← hlen]
      exact env_start (n := 1) (ds := [.hof]) (.cons (.hof rfl) .nil) rfl
    · have pq : Post X.K (G.hand f φ H1) (WofE (WE W σ)) [] φ H1 (runB true len 1 (bg (actM (m ρ))) [.hof] st) fun d _ φ' H' => ∀ v, Rp X.K (G.hand f φ H1) φ' H' d v → Q v H' := by
        cases q : runB true len 1 (bg (actM (m ρ))) [.hof] st with
        | ok d st' => rw [q] at pb; exact pb
        | exc c st' => rw [q] at pb; exact pb
        | bad => rw [q] at pb; exact pb
      exact runB_post s2 pq
  refine wpAny_call (codeAny_mono rc fun r s2 hq => ?_)
  cases r with
  | error e => exact L2N.passAt tk σ _ H1 s' e s2 I1 hq
  | ok fl =>
    cases fl with
    | ret u => exact I1.after hq
    | next => exact False.elim hq
    | brk => exact False.elim hq
    | cont => exact False.elim hq
end DL
namespace HN
open PySem PySem.Spec PyProof.Rows L2 HotX
/-! ### StopIteration while an exception is handled -/
section
variable {prog : Program} {w : World} {A : Around} {E : Value → Shared → Prop} {s : Shared} {x1 : Addr}
theorem hot_ext {h h' : Heap} (p : HotAt A x1 h) (k : ∀ o, h.get? x1 = some o → h'.get? x1 = some o) : HotAt A x1 h' := by
  obtain ⟨a, o, vs, e, d, c⟩ := p
  exact ⟨a, o, vs, k o e, d, c⟩
/-- an object of two fields is not the handled exception -/
theorem hot_ne {h : Heap} {u : Addr} {o : Obj} {f0 f1 : Value} (p : HotAt A x1 h) (e : h.get? u = some o) (d : o.data = .fields #[f0, f1]) : x1 ≠ u := by
  obtain ⟨_, q, vs, e2, d2, c⟩ := p
  rintro rfl
  rw [e] at e2
  cases e2
  rw [d] at d2
  cases d2
  cases c
theorem hot_ne_seq {h : Heap} {u : Addr} {o : Obj} {ws : Array Value} {k : Nat} (p : HotAt A x1 h) (e : h.get? u = some o) (d : o.data = .seq ws k) : x1 ≠ u := by
  obtain ⟨_, q, vs, e2, d2, c⟩ := p
  rintro rfl
  rw [e] at e2
  cases e2
  rw [d] at d2
  cases d2
theorem stop_hot {α : Type} {Q : α → Shared → Prop} (p : HotAt A x1 s.heap)
    (hE : ∀ h' e, (∀ b o, s.heap.get? b = some o → h'.get? b = some o) → (∃ o, h'.get? e = some o ∧ o.cls = .type "StopIteration") → E (.ref e) { s with heap := h' }) :
    wpAny (model prog w) A (newExc (.type "StopIteration") [] >>= fun e => (raiseNew e : Sem α)) Q E s := by
  obtain ⟨hh, oz, vz, ez, dz, cz⟩ := p
  refine wpAny_bind ?_
  simp only [newExc, newTuple]
  refine wpAny_bind (wpAny_newObj_type ?_ (by size_fits))
  refine wpAny_bind (m := firstArgMember _ _) (wpAny_of_eq (a := Value.none) (by first
    | rfl
    | (simp only [firstArgMember]; rfl)) ?_)
  refine wpAny_newObj_type ?_ (by size_fits)
  have up : ∀ b o (n1 n2 : Obj), s.heap.get? b = some o → ((s.heap.push n1).push n2).get? b = some o := fun b o n1 n2 q => Heap.get?_push_of_some n2 (Heap.get?_push_of_some n1 q)
  have e3 := up x1 oz { cls := Value.type "tuple", data := Data.seq #[] }
  have lt : x1 ≠ (s.heap.push { cls := Value.type "tuple", data := Data.seq #[] }).objs.size := Nat.ne_of_lt (Heap.lt_size (Heap.get?_push_of_some _ ez))
  refine raiseNew_hot (x1 := x1) ⟨hh, oz, vz, e3 _ ez, dz, cz⟩ lt (Heap.get?_push_size _ rfl) rfl (by first
    | (simp; done)
    | (simp; omega)
    | (simp only [Array.size_append]; simp; omega)) ?_
  refine hE _ _ (fun b o q => ?_) ⟨_, Heap.get?_update_self _ (Heap.get?_push_size _ rfl) rfl, rfl⟩
  rw [Heap.get?_update_other _ _ (Nat.ne_of_gt (Heap.lt_size (Heap.get?_push_of_some _ q)))]
  exact up b o _ _ q
/-- the end of a list's iterator -/
theorem list_end_hot {u l : Addr} {i : Nat} {its : Array Value} {Q : Value → Shared → Prop} (p : HotAt A x1 s.heap) (hu : s.heap.IsListIter u l i) (hl : s.heap.IsList l its) (hx : its[i]? = none)
    (hE : ∀ h' e, Heap.ExtBut u s.heap h' → (∃ o, h'.get? e = some o ∧ o.cls = .type "StopIteration") → E (.ref e) { s with heap := h' }) :
    wpAny (model prog w) A (Builtin.SmallTypes.nextOf (.ref u)) Q E s := by
  obtain ⟨ou, gu, cu, du⟩ := id hu
  obtain ⟨ol, gl, _, kl, dl⟩ := hl
  have nu : x1 ≠ u := hot_ne p gu du
  unfold Builtin.SmallTypes.nextOf
  refine wpAny_bind (wpAny_callSpecial?_slot (name := Str.ofString "__next__") hu.typeIs slot_listiter_next (wpAny_call_entry slot_listiter_next hu.typeIs entry_listiter_next ?_ (args_listiter_next _)))
  show wpAny _ _ (field (.ref u) 0 >>= _) _ _ s
  refine wpAny_bind (wpAny_field gu du (x := .ref l) rfl ?_)
  show wpAny _ _ (if (Value.ref l == Value.none) = true then _ else _) _ _ s
  rw [if_neg (fun z : (Value.ref l == Value.none) = true => by cases z)]
  show wpAny _ _ (field (.ref u) 1 >>= _) _ _ s
  refine wpAny_bind (wpAny_field gu du (x := .int i 0) rfl ?_)
  show wpAny _ _ (seqItems? (.ref l) >>= _) _ _ s
  refine wpAny_bind (wpAny_seqItems gl dl ?_)
  simp only [Int.toNat_natCast, hx]
  refine wpAny_bind (wpAny_rule (wpAny_bind (wpAny_setField gu du (by simp) ?_)))
  refine stop_hot (x1 := x1) (hot_ext p fun o q => (Heap.SameBut.update ..).extBut _ _ nu q) fun h' e k c => hE h' e (fun b o hb q => k b o ((Heap.SameBut.update ..).extBut b o hb q)) c
/-- the end of a tuple's iterator -/
theorem tup_end_hot {u l : Addr} {i : Nat} {its : Array Value} {Q : Option Value → Shared → Prop} (p : HotAt A x1 s.heap) (hu : IsTupIter s.heap u l i) (hl : IsTup s.heap l its) (hx : its[i]? = none)
    (hQ : ∀ h', Heap.ExtBut u s.heap h' → Q none { s with heap := h' }) : wpAny (model prog w) A (pyNext (.ref u)) Q E s := by
  obtain ⟨ou, gu, cu, du⟩ := id hu
  obtain ⟨ol, gl, _, kl, dl⟩ := hl
  have nu : x1 ≠ u := hot_ne p gu du
  unfold pyNext
  refine wpAny_bind (wpAny_attempt (wpAny_callSpecial?_slot (name := Str.ofString "__next__") hu.typeIs slot_tupleiter_next (wpAny_call_entry slot_tupleiter_next hu.typeIs entry_tupleiter_next ?_ (args_tupleiter_next _))))
  show wpAny _ _ (field (.ref u) 0 >>= _) _ _ s
  refine wpAny_bind (wpAny_field gu du (x := .ref l) rfl ?_)
  show wpAny _ _ (if (Value.ref l == Value.none) = true then _ else _) _ _ s
  rw [if_neg (fun z : (Value.ref l == Value.none) = true => by cases z)]
  show wpAny _ _ (field (.ref u) 1 >>= _) _ _ s
  refine wpAny_bind (wpAny_field gu du (x := .int i 0) rfl ?_)
  show wpAny _ _ (seqItems? (.ref l) >>= _) _ _ s
  refine wpAny_bind (wpAny_seqItems gl dl ?_)
  simp only [Int.toNat_natCast, hx]
  refine wpAny_bind (wpAny_rule (wpAny_bind (wpAny_setField gu du (by simp) ?_)))
  refine stop_hot (x1 := x1) (hot_ext p fun o q => (Heap.SameBut.update ..).extBut _ _ nu q) fun h' e k c => ?_
  obtain ⟨oe, ge, ce⟩ := c
  refine wpAny_bind (wpAny_isInstance (T := "StopIteration") (b := true) ⟨oe, ge, ce⟩ isSubtype_stop ?_)
  exact wpAny_pure (hQ h' fun b o hb q => k b o ((Heap.SameBut.update ..).extBut b o hb q))
/-- a, b = a tuple -/
theorem unpack_hot {env : Env} {elts : List Expr} {kk : Nat} {pos : Pos} {l : Addr} {its : Array Value} {Q : Unit → Shared → Prop} (p : HotAt A x1 s.heap) (hl : IsTup s.heap l its)
    (hn : (assignEach elts env).length = its.size) (hst : (assignEach elts env).findIdx? (·.1) = none)
    (h : ∀ h', Heap.ExtBut s.heap.objs.size s.heap h' → wpAny (model prog w) A (assignInOrder ((assignEach elts env).map (·.2)) its.toList) Q E { s with heap := h' }) :
    wpAny (model prog w) A (assign (.Tuple elts kk pos) env (.ref l)) Q E s := by
  have ne : l ≠ s.heap.objs.size := by
    obtain ⟨o, e, _⟩ := hl
    exact Nat.ne_of_lt (Heap.lt_size e)
  have nx : x1 ≠ s.heap.objs.size := by
    obtain ⟨_, o, _, e, _⟩ := p
    exact Nat.ne_of_lt (Heap.lt_size e)
  rw [assign_Tuple]
  refine wpAny_bind (wpAny_standAt ?_)
  unfold unpack
  rw [hn, hst]
  refine wpAny_bind (wpAny_holding ?_)
  unfold unpackItems
  refine wpAny_bind ?_
  unfold notIterableAtAll
  refine wpAny_bind (wpAny_specialOf hl.typeIs slot_tuple_iter.lookup ?_)
  refine wpAny_pure ?_
  simp only [Bool.false_eq_true, if_false]
  refine wpAny_bind (wpAny_holding (iter_tuple hl ?_))
  refine wpAny_bind (wpAny_holding (draw_tuple ne its.size 0 _ _ ⟨_, Heap.get?_push_size _ rfl, rfl, rfl⟩ (hl.push _) (by omega) fun h1 it1 sb1 => ?_))
  rw [show List.take its.size (List.drop 0 its.toList) = its.toList from by rw [List.drop_zero]; exact List.take_of_length_le (by simp)]
  rw [if_neg (by simp)]
  have l1 : IsTup h1 l its := (hl.push _).extBut sb1.extBut ne
  have p1 : HotAt A x1 h1 := hot_ext p fun o q => sb1.extBut _ _ nx (Heap.get?_push_of_some _ q)
  refine wpAny_bind (wpAny_holding (tup_end_hot p1 it1 l1 (by simp) fun h2 e2 => ?_))
  simp only [Option.isSome_none, Bool.false_eq_true, if_false]
  exact wpAny_pure (h h2 fun b o hb q => e2 b o hb (sb1.extBut b o hb (Heap.get?_push_of_some _ q)))
/-- the end of a zip whose first list is through -/
theorem zip_end_hot {z TI TO i1 i2 l1 : Addr} {k1 : Nat} {xs : Array Value} {Q : Option Value → Shared → Prop} (p : HotAt A x1 s.heap) (d1 : i1 ≠ z) (d2 : l1 ≠ z)
    (hz : IsZip s.heap z TI TO .none) (hTI : IsPair s.heap TI (.ref i1) (.ref i2)) (h1 : s.heap.IsListIter i1 l1 k1) (hl1 : s.heap.IsList l1 xs) (hx : xs[k1]? = none)
    (hQ : ∀ h', (∀ c o, c ≠ z → c ≠ i1 → s.heap.get? c = some o → h'.get? c = some o) → Q none { s with heap := h' }) : wpAny (model prog w) A (pyNext (.ref z)) Q E s := by
  have tz : s.TypeIs (.ref z) "zip" := ⟨_, hz, rfl⟩
  have nz : x1 ≠ z := by
    obtain ⟨_, o, vs, e, d, c⟩ := p
    rintro rfl
    rw [hz] at e
    cases e
    cases d
    cases c
  unfold pyNext
  refine wpAny_bind (wpAny_attempt (wpAny_callSpecial?_slot (name := Str.ofString "__next__") tz F.slot_zip_next (wpAny_call_entry F.slot_zip_next tz F.entry_zip_next ?_ (F.args_zip_next_1 _))))
  show wpAny _ _ (field (.ref z) 2 >>= _) _ _ s
  refine wpAny_bind (wpAny_field hz rfl (x := Value.bool false) rfl ?_)
  show wpAny _ _ (field (.ref z) 3 >>= _) _ _ s
  refine wpAny_bind (wpAny_field hz rfl (x := Value.ref TI) rfl ?_)
  refine wpAny_bind (wpAny_seqItems hTI rfl ?_)
  show wpAny _ _ (Builtin.SmallTypes.ownedTupleIsFree (.ref z) >>= _) _ _ s
  refine wpAny_bind ?_
  unfold Builtin.SmallTypes.ownedTupleIsFree
  refine wpAny_bind (wpAny_field hz rfl (x := Value.none) rfl (wpAny_pure ?_))
  simp only [if_true]
  refine wpAny_bind (wpAny_rule ?_)
  refine wpAny_bind (wpAny_field hz rfl (x := Value.ref TO) rfl ?_)
  refine wpAny_bind (wpAny_setField_rec hz (by simp) fun g1 hz1 sb1 => ?_)
  replace hz1 : IsZip g1 z TI TO .ellipsis := hz1
  refine wpAny_bind ?_
  simp only [List.zipIdx_cons, List.zipIdx_nil, List.forIn_cons, List.forIn_nil]
  refine wpAny_bind (wpAny_bind (wpAny_onRaise ?_))
  show wpAny _ _ (Builtin.SmallTypes.nextOf (.ref i1) >>= _) _ _ _
  refine wpAny_bind (list_end_hot (x1 := x1) (hot_ext p fun o q => sb1.extBut _ _ nz q) (h1.extBut sb1.extBut d1) (hl1.extBut sb1.extBut d2) hx fun g2 e k2 he => ?_)
  obtain ⟨oe, ge, ce⟩ := he
  have hz2 : IsZip g2 z TI TO .ellipsis := k2 _ _ d1.symm hz1
  have ez : e ≠ z := fun q => by
    subst q
    rw [hz2] at ge
    cases ge
    simp at ce
  refine wpAny_setField_rec hz2 (by simp) fun g3 _ sb3 => ?_
  refine wpAny_bind (wpAny_isInstance (T := "StopIteration") (b := true) ⟨oe, sb3.extBut _ _ ez ge, ce⟩ isSubtype_stop ?_)
  exact wpAny_pure (hQ g3 fun c o c1 c2 q => sb3.extBut _ _ c1 (k2 _ _ c2 (sb1.extBut _ _ c1 q)))
end
end HN
namespace HN
open PySem PySem.Spec PyProof.Rows L2 HotX L2H
def sel : List Str → List Bool → List Str
  | x :: xs, true :: ys => x :: sel xs ys
  | _ :: xs, false :: ys => sel xs ys
  | _, _ => []
theorem sel_len : ∀ (xs : List Str) (ys : List Bool), (sel xs ys).length ≤ xs.length
  | [], [] => Nat.le_refl _
  | [], _ :: _ => Nat.le_refl _
  | _ :: _, [] => Nat.zero_le _
  | x :: xs, true :: ys => Nat.succ_le_succ (sel_len xs ys)
  | x :: xs, false :: ys => Nat.le_succ_of_le (sel_len xs ys)
theorem sel_snoc : ∀ (xs : List Str) (ys : List Bool) (i : Nat) (x : Str) (y : Bool), xs[i]? = some x → ys[i]? = some y → sel (xs.take (i + 1)) (ys.take (i + 1)) = sel (xs.take i) (ys.take i) ++ (match y with | true => [x] | false => [])
  | [], _, _, _, _, h, _ => by simp at h
  | _ :: _, [], _, _, _, _, h => by simp at h
  | a :: xs, b :: ys, 0, x, y, h1, h2 => by
    simp at h1 h2
    subst h1 h2
    cases b <;> simp [sel]
  | a :: xs, b :: ys, i + 1, x, y, h1, h2 => by
    have := sel_snoc xs ys i x y (by simpa using h1) (by simpa using h2)
    rw [List.take_succ_cons, List.take_succ_cons, List.take_succ_cons, List.take_succ_cons]
    cases b with
    | true =>
      show a :: sel _ _ = a :: sel _ _ ++ _
      rw [this]
      rfl
    | false => exact this
section
variable {X : Cx}
/-- the zip at turn i -/
structure ZS (h : Heap) (z TI TO i1 i2 a b : Addr) (i : Nat) : Prop where
  z : IsZip h z TI TO .none
  ti : IsPair h TI (.ref i1) (.ref i2)
  to : ∃ x y, IsPair h TO x y
  l1 : h.IsListIter i1 a i
  l2 : h.IsListIter i2 b i
theorem ZS.at {h h' : Heap} {z TI TO i1 i2 a b : Addr} {i : Nat} (s : ZS h z TI TO i1 i2 a b i) (k : ∀ c ∈ [z, TI, TO, i1, i2], ∀ o, h.get? c = some o → h'.get? c = some o) : ZS h' z TI TO i1 i2 a b i := by
  obtain ⟨x, y, q⟩ := s.to
  exact ⟨k z (by simp) _ s.z, k TI (by simp) _ s.ti, ⟨x, y, k TO (by simp) _ q⟩, s.l1.at fun o e => k i1 (by simp) o e, s.l2.at fun o e => k i2 (by simp) o e⟩
theorem ZS.obj {h : Heap} {z TI TO i1 i2 a b : Addr} {i : Nat} (s : ZS h z TI TO i1 i2 a b i) : ∀ c ∈ [z, TI, TO, i1, i2], ∃ o, h.get? c = some o ∧ ∀ v, o.data ≠ .cell v := fun c hc => by
  obtain ⟨x, y, q⟩ := s.to
  obtain ⟨o1, e1, _, d1⟩ := s.l1
  obtain ⟨o2, e2, _, d2⟩ := s.l2
  simp only [List.mem_cons, List.not_mem_nil, or_false] at hc
  rcases hc with rfl | rfl | rfl | rfl | rfl
  · exact ⟨_, s.z, fun v => nofun⟩
  · exact ⟨_, s.ti, fun v => nofun⟩
  · exact ⟨_, q, fun v => nofun⟩
  · exact ⟨o1, e1, fun v n => by rw [d1] at n; cases n⟩
  · exact ⟨o2, e2, fun v n => by rw [d2] at n; cases n⟩
/-- the pinned exception, in a block -/
theorem blk_pin {pins : List (Addr × Obj)} {σ : L2.St} {H : Hp} {s s' : Shared} {scope : Scope} {cenv : Env} {fp : List Addr} {p : Addr × Obj} {τ : L2.St} (I : Inv X pins σ H s) (hp : p ∈ X.pn) (J : Inv (X.blk s H scope cenv fp) [] τ H s') (hc : cenv.locals = s.heap.objs.size)
    (k : ∀ b o, s.heap.get? b = some o → s'.heap.get? b = some o) : Inv (X.blk s H scope cenv fp) [p] τ H s' := by
  obtain ⟨g, f, nl, nf, nc⟩ := I.pin p (List.mem_append_left _ hp)
  refine ⟨J.ok, J.os, J.bare, J.base, J.loc, J.cell, J.free, J.freeC, fun q hq => ?_, J.hok, J.len⟩
  have e : q = p := by simpa using (show q ∈ ([] : List (Addr × Obj)) ++ [p] from hq)
  subst e
  refine ⟨k _ _ g, f, ?_, fun hm => (List.mem_cons.mp (I.stkSub q.1 hm)).elim nl nf, nc⟩
  show q.1 ≠ cenv.locals
  rw [hc]
  exact Nat.ne_of_lt (Heap.lt_size g)
theorem names_comp {p : Addr × Obj} (hp : p ∈ X.pn) (hot : Hot1 X.A p) (nd : X.N.Nodup) {lab good : Str} {i0 i1 : Nat} (h0 : X.N[i0]? = some lab) (h1 : X.N[i1]? = some good) {scope : Scope} (ok : BlkOk X.N X.env.scope scope [(lab, i0), (good, i1)]) {e1 e2 : Expr} {t1 : TA} {q1 q2 q3 q4 q5 q6 q7 pos : Pos} {kk : Nat}
    (ha : PA X [e1, e2] t1) (hg : Gl X "zip") (hm : X.mg "zip" = none) (hs : starEach [e1, e2] X.env = (false, eval e1 X.env) :: starEach [e2] X.env) (hpl : (backTo q6 (starEach [e2] X.env)).any (·.1) = false)
    (hfo : ∀ x, foldedSetIterable (.Call (.Name "zip" q5) [e1, e2] [] q6) X.env x = pure x)
    (pg : ∀ (s : Shared) (H : Hp) (C : Addr) (cl : List (Str × Addr)) (fp : List Addr), PGs (X.blk s H scope (compEnvC scope cl C X.env) fp) [.Name lab q2, .Name good q3] (gCons (gName i0) (gCons (gName i1) gNil)))
    (hn : ∀ (cl : List (Str × Addr)) (C : Addr), (assignEach [.Name lab q2, .Name good q3] (compEnvC scope cl C X.env)).length = 2 ∧ (assignEach [.Name lab q2, .Name good q3] (compEnvC scope cl C X.env)).findIdx? (·.1) = none)
    (pt : ∀ (s : Shared) (H : Hp) (C : Addr) (cl : List (Str × Addr)) (fp : List Addr), PTs (X.blk s H scope (compEnvC scope cl C X.env) fp) [.Name good q7] (fun σ H Q => ∃ b, σ[i1]? = some (some (.bl b)) ∧ Q b H))
    (pe : ∀ (s : Shared) (H : Hp) (C : Addr) (cl : List (Str × Addr)) (fp : List Addr), PE (X.blk s H scope (compEnvC scope cl C X.env) fp) (.Name lab q1) (tVar i0)) :
    PE X (.ListComp (.Name lab q1) [⟨.Tuple [.Name lab q2, .Name good q3] kk q4, .Call (.Name "zip" q5) [e1, e2] [] q6, [.Name good q7], 0⟩] scope pos)
      (fun σ H Q => t1 σ H fun vs H1 => ∃ a b xs ys, vs = [.ref a, .ref b] ∧ SqL X.K H1 a (xs.map V.str) ∧ SqL X.K H1 b (ys.map V.bl) ∧ xs.length = ys.length ∧ xs.length ≤ 1000 ∧ i0 < σ.length ∧ i1 < σ.length ∧ i0 ≠ i1 ∧
        ∀ D H2, H1 D = none → (∀ c o, H1 c = some o → H2 c = some o) → H2 D = some (.lst ((sel xs ys).map V.str)) → Q (.ref D) H2) := by
  refine ⟨fun pins s σ H Q I h => ?_⟩
  have fr : ∀ y ∈ scope.names, y.2 = .free → ∃ c, X.env.cells.lookup y.1 = some c := fun y hy e => (ok.free y hy e).elim (fun k => I.ok.has _ (.inl k)) fun k => I.ok.has _ (.inr k)
  rw [eval_ListComp]
  refine wpAny_comprehension_free (use := none) rfl hfo (closure_ok fr) ok.kind (fun y hy e => by rw [ok.uniq y hy, e]) ?_
  refine Call_ (ld_blt I hg hm PyProof.Rows.boot_zip (PyProof.Rows.callWith_type1 (thn (ha.run q6 pins s σ H _ I h) fun us s1 ⟨vs, H1, I1, r1, z1⟩ => ?_) hs hpl))
  obtain ⟨a, b, xs, ys, rfl, qa, qb, hlen, hle, hi0, hi1, hne, z1⟩ := z1
  cases r1 with
  | cons ra rr => cases rr with
    | cons rb rr => cases rr with
      | nil =>
        cases ra
        cases rb
        obtain ⟨ia, va, pa, _⟩ := I1.list qa
        obtain ⟨ib, vb, pb, _⟩ := I1.list qb
        refine call_zip_2 pa.isList pb.isList fun g hz hTI hTO hl1 hl2 hsz hk => wpAny_pyIter_zip hz ?_
        have ap := PySem.W.ktu_apart s1.heap.objs.size a b pa.lt pb.lt
        have zs0 : ZS g (s1.heap.objs.size + 4) (s1.heap.objs.size + 2) (s1.heap.objs.size + 3) s1.heap.objs.size (s1.heap.objs.size + 1) a b 0 := ⟨hz, hTI, ⟨_, _, hTO⟩, hl1, hl2⟩
        have old : ∀ c, c ∈ [s1.heap.objs.size + 4, s1.heap.objs.size + 2, s1.heap.objs.size + 3, s1.heap.objs.size, s1.heap.objs.size + 1] → s1.heap.objs.size ≤ c ∧ c < s1.heap.objs.size + 5 := fun c hc => by
          simp only [List.mem_cons, List.not_mem_nil, or_false] at hc
          omega
        have I2 : Inv X pins σ H1 { s1 with heap := g } := I1.kept (t' := s1.toks) hk
        have f2 : ∀ c, c ∈ [s1.heap.objs.size + 4, s1.heap.objs.size + 2, s1.heap.objs.size + 3, s1.heap.objs.size, s1.heap.objs.size + 1] → FpOk X pins H1 c := fun c hc => I1.fpOk (old c hc).1 (I1.hok.fresh (old c hc).1)
        generalize hz5 : s1.heap.objs.size + 4 = z at *
        generalize hTI5 : s1.heap.objs.size + 2 = TI at *
        generalize hTO5 : s1.heap.objs.size + 3 = TO at *
        generalize hi25 : s1.heap.objs.size + 1 = j2 at *
        generalize hi15 : s1.heap.objs.size = j1 at *
        refine wpAny_newObj_type (newEnv_comp ?_) (by show 0 ≤ sizeLine; decide)
        -- the new list
        generalize hD : g.objs.size = D
        have nD : H1 D = none := I2.hok.fresh (Nat.le_of_eq hD)
        generalize hs3 : ({ s1 with heap := g.push { cls := .type "list", data := .seq ([] : List Value).toArray } } : Shared) = s3
        have h3 : s3.heap = g.push { cls := .type "list", data := .seq ([] : List Value).toArray } := by rw [← hs3]
        have I3 : Inv X pins σ (upd H1 D (.lst [])) s3 := by
          rw [← hs3]
          refine I2.laid (t' := s1.toks) (fun c o e => Heap.get?_push_of_some _ e) (Nat.le_of_eq hD) ⟨Nat.zero_le _, [], 0, .nil, ?_⟩
          rw [← hD]
          exact Heap.get?_push_size _ rfl
        have f3 : ∀ c ∈ [z, TI, TO, j1, j2], FpOk X pins (upd H1 D (.lst [])) c ∧ c < s3.heap.objs.size := fun c hc => by
          have l := (old c hc).2
          rw [← hsz] at l
          refine ⟨⟨?_, (f2 c hc).2⟩, by rw [h3, Heap.size_push]; exact Nat.lt_succ_of_lt l⟩
          rw [upd_ne (by rw [← hD]; exact Nat.ne_of_lt l)]
          exact (f2 c hc).1
        have zs3 : ZS s3.heap z TI TO j1 j2 a b 0 := zs0.at fun c _ o e => by
          rw [h3]
          exact Heap.get?_push_of_some _ e
        have B0 := block_start I3 ok nd f3
        have B1 := blk_pin I3 hp B0 rfl fun c o e => pushCells_keeps _ _ _ _ (Heap.get?_push_of_some _ e)
        have xg := pg s3 (upd H1 D (.lst [])) s3.heap.objs.size (cellsFrom (s3.heap.objs.size + 1) scope.names (cloFrom X.env.cells scope.names [])) [z, TI, TO, j1, j2]
        have xn := hn (cellsFrom (s3.heap.objs.size + 1) scope.names (cloFrom X.env.cells scope.names [])) s3.heap.objs.size
        have xt := pt s3 (upd H1 D (.lst [])) s3.heap.objs.size (cellsFrom (s3.heap.objs.size + 1) scope.names (cloFrom X.env.cells scope.names [])) [z, TI, TO, j1, j2]
        have xe := pe s3 (upd H1 D (.lst [])) s3.heap.objs.size (cellsFrom (s3.heap.objs.size + 1) scope.names (cloFrom X.env.cells scope.names [])) [z, TI, TO, j1, j2]
        have nf : ∀ c ∈ [z, TI, TO, j1, j2], (upd H1 D (.lst [])) c = none := fun c hc => (f3 c hc).1.1
        show codeAny _ _ (.compStart _ 0 (.ref z) (.ref D) (compEnvC scope (cellsFrom (s3.heap.objs.size + 1) scope.names (cloFrom X.env.cells scope.names [])) s3.heap.objs.size X.env)) (compPost (model X.prog X.w) X.A X.xe none (EP X pins σ Q) (.ref D) s3.heap.objs.size) { s3 with heap := pushCells (s3.heap.push { cls := .type "dict", data := .dict #[] }) scope.names }
        generalize hce : compEnvC scope (cellsFrom (s3.heap.objs.size + 1) scope.names (cloFrom X.env.cells scope.names [])) s3.heap.objs.size X.env = ce at B0 B1 xg xn xt xe ⊢
        have cL : ce.locals = s3.heap.objs.size := by
          subst hce
          rfl
        have zs4 : ZS (pushCells (s3.heap.push { cls := .type "dict", data := .dict #[] }) scope.names) z TI TO j1 j2 a b 0 := zs3.at fun c _ o e => pushCells_keeps _ _ _ _ (Heap.get?_push_of_some _ e)
        generalize hs4 : ({ s3 with heap := pushCells (s3.heap.push { cls := .type "dict", data := .dict #[] }) scope.names } : Shared) = s4 at B0 B1 ⊢
        have zs5 : ZS s4.heap z TI TO j1 j2 a b 0 := by
          rw [← hs4]
          exact zs4
        generalize hH3 : upd H1 D (.lst []) = H3 at I3 B0 B1 xg xn xt xe nf f3
        have stat : ∀ {τ : L2.St} {H' : Hp} {s' : Shared}, Inv (X.blk s3 H3 scope ce [z, TI, TO, j1, j2]) [p] τ H' s' → (∀ c ∈ [z, TI, TO, j1, j2], H' c = none) → ∀ c ∈ [z, TI, TO, j1, j2], FpOk (X.blk s3 H3 scope ce [z, TI, TO, j1, j2]) [p] H' c := fun {τ H' s'} J hn c hc =>
          ⟨hn c hc, (J.ok.exf c hc).1, J.ok.exfs c hc, .inl hc, fun x u e => (J.ok.exf c hc).2 x u e, fun q hq => by
            have e : q = p := by simpa using (show q ∈ ([] : List (Addr × Obj)) ++ [p] from hq)
            subst e
            exact fun z => (f3 c hc).1.2.2.2.2.2 q (List.mem_append_left _ hp) z⟩
        let fp := [z, TI, TO, j1, j2]
        let own := [(lab, i0), (good, i1)].map (·.2)
        let Pv : Nat → Hp → Prop := fun i H' => (∀ c o, H1 c = some o → H' c = some o) ∧ H' D = some (.lst ((sel (xs.take i) (ys.take i)).map V.str))
        have lst : ∀ {i : Nat} {H' : Hp}, Pv i H' → SqL X.K H' a (xs.map V.str) ∧ SqL X.K H' b (ys.map V.bl) := fun {i H'} q => by
          refine ⟨?_, ?_⟩
          · rcases qa with (e | ⟨o, e⟩) | e
            · exact .inl (.inl (q.1 _ _ e))
            · exact .inl (.inr ⟨o, q.1 _ _ e⟩)
            · exact .inr e
          · rcases qb with (e | ⟨o, e⟩) | e
            · exact .inl (.inl (q.1 _ _ e))
            · exact .inl (.inr ⟨o, q.1 _ _ e⟩)
            · exact .inr e
        have loop : codeAny (model X.prog X.w) X.A (.compLoop (.ListComp (.Name lab q1) [⟨.Tuple [.Name lab q2, .Name good q3] kk q4, .Call (.Name "zip" q5) [e1, e2] [] q6, [.Name good q7], 0⟩] scope pos) 0 (.ref z) (.ref D) ce) (compPost (model X.prog X.w) X.A X.xe none (EP X pins σ Q) (.ref D) s3.heap.objs.size) s4 := by
          refine compLoop_any (fun n s' => ∃ i H', n = xs.length - i ∧ i ≤ xs.length ∧ Inv (X.blk s3 H3 scope ce fp) [p] (wipe σ own) H' s' ∧ ZS s'.heap z TI TO j1 j2 a b i ∧ (∀ c ∈ fp, H' c = none) ∧ Pv i H') ?_ xs.length ⟨0, H3, by simp, Nat.zero_le _, B1, zs5, nf, ?_, ?_⟩
          · rintro n s5 ⟨i, H5, rfl, hi, I5, Z5, n5, P5⟩
            obtain ⟨la, lb⟩ := lst P5
            obtain ⟨ja, wa, ga, _⟩ := I5.list la
            obtain ⟨jb, wb, gb, _⟩ := I5.list lb
            have ka := wa.length
            have kb := wb.length
            rw [List.length_map] at ka kb
            by_cases hlt : i < xs.length
            · have hlt2 : i < ys.length := by omega
              obtain ⟨u, eu, ru⟩ := wa.get (show (xs.map V.str)[i]? = some (.str xs[i]) by simp [hlt])
              obtain ⟨u2, eu2, ru2⟩ := wb.get (show (ys.map V.bl)[i]? = some (.bl ys[i]) by simp [hlt2])
              obtain ⟨x0, y0, hTO6⟩ := Z5.to
              refine wpAny_pyNext_zip_item ap Z5.z Z5.ti hTO6 Z5.l1 Z5.l2 ga.isList gb.isList (x := u) (y := u2) (by simpa using eu) (by simpa using eu2) fun g' z' TO' l1' l2' hT hsz' hk' => ?_
              refine wpAny_letOwnedTupleGo_zip (s := { s5 with heap := g' }) z' fun g2 z2 sb => ?_
              have hzl : z < s5.heap.objs.size := Heap.lt_size Z5.z
              have hT2 : g2.get? s5.heap.objs.size = some { cls := .type "tuple", data := .seq #[u, u2] } := (sb.2 _ (Nat.ne_of_gt hzl)).trans hT
              have I6 : Inv (X.blk s3 H3 scope ce fp) [p] (wipe σ own) (upd H5 s5.heap.objs.size (.tup [V.str xs[i], V.bl ys[i]])) { s5 with heap := g2 } :=
                I5.turnedNew (t' := s5.toks) (ch := fp) (fun c o hb q => (sb.2 c (fun e => hb (by simp [fp, e]))).trans (hk' c o (fun e => hb (by simp [fp, e])) (fun e => hb (by simp [fp, e])) (fun e => hb (by simp [fp, e])) (fun e => hb (by simp [fp, e])) q)) (stat I5 n5) (Nat.le_refl _)
                  ⟨by show 2 ≤ sizeLine; decide, [u, u2], .cons ru (.cons ru2 .nil), ⟨_, hT2, rfl, _, rfl⟩⟩
              have Z6 : ZS g2 z TI TO j1 j2 a b (i + 1) := ⟨z2, (sb.2 _ ap.TIz).trans (hk' _ _ ap.TIz ap.TITO ap.TIi1 ap.TIi2 Z5.ti), ⟨u, u2, (sb.2 _ ap.TOz).trans TO'⟩, l1'.at fun o q => (sb.2 _ ap.i1z).trans q, l2'.at fun o q => (sb.2 _ ap.i2z).trans q⟩
              have nT : H5 s5.heap.objs.size = none := I5.hok.fresh (Nat.le_refl _)
              have n6 : ∀ c ∈ fp, (upd H5 s5.heap.objs.size (.tup [V.str xs[i], V.bl ys[i]])) c = none := fun c hc => by
                obtain ⟨o, e, _⟩ := Z5.obj c hc
                rw [upd_ne (Nat.ne_of_lt (Heap.lt_size e))]
                exact n5 c hc
              have P6 : Pv i (upd H5 s5.heap.objs.size (.tup [V.str xs[i], V.bl ys[i]])) := by
                refine ⟨fun c o e => ?_, ?_⟩
                · rw [upd_ne (ne_of_none (P5.1 c o e) nT)]
                  exact P5.1 c o e
                · rw [upd_ne (ne_of_none P5.2 nT)]
                  exact P5.2
              generalize hH6 : upd H5 s5.heap.objs.size (.tup [V.str xs[i], V.bl ys[i]]) = H6 at I6 n6 P6
              have qT : SqT X.K H6 s5.heap.objs.size [V.str xs[i], V.bl ys[i]] := by
                rw [← hH6]
                exact .inl (.inl upd_same)
              have I7 := I6.pinned (stat I6 n6) Z6.obj
              generalize hs6 : ({ s5 with heap := g2 } : Shared) = s6 at I6 I7 ⊢
              have eg : s6.heap = g2 := by rw [← hs6]
              rw [← eg] at Z6
              obtain ⟨its, rv, pT, _⟩ := I7.tuple qT
              have hot7 : HotAt X.A p.1 s6.heap := by
                obtain ⟨v1, d1, c1⟩ := hot.2
                exact ⟨hot.1, p.2, v1, (I7.pin p (List.mem_append_right _ (List.mem_append_left _ List.mem_cons_self))).1, d1, c1⟩
              refine unpack_hot (x1 := p.1) hot7 pT (by rw [xn.1]; simp [← rv.length]) xn.2 fun g3 k3 => ?_
              rw [eg] at I7
              have I8 : Inv (X.blk s3 H3 scope ce fp) ([p] ++ pinsAt fp g2) (wipe σ own) H6 { s6 with heap := g3 } := I7.kept (t' := s6.toks) fun c o e => k3 c o (Nat.ne_of_lt (Heap.lt_size e)) e
              have wl : (wipe σ own).length = σ.length := wipe_length σ own
              refine thnF (xg.run _ _ (wipe σ own) H6 _ _ (fun σ' H' => σ' = ((wipe σ own).set i0 (some (.str xs[i]))).set i1 (some (.bl ys[i])) ∧ H' = H6) I8 (by simpa using rv) ⟨_, _, rfl, _, _, rfl, rfl, rfl, rfl⟩) fun _ s8 ⟨σ8, H8, I9, e8, eH⟩ => ?_
              subst e8 eH
              have at1 : (((wipe σ own).set i0 (some (.str xs[i]))).set i1 (some (.bl ys[i])))[i1]? = some (some (V.bl ys[i])) := by
                rw [List.getElem?_set_self (by rw [List.length_set, wl]; exact hi1)]
              have at0 : (((wipe σ own).set i0 (some (.str xs[i]))).set i1 (some (.bl ys[i])))[i0]? = some (some (V.str xs[i])) := by
                rw [List.getElem?_set_ne (Ne.symm hne), List.getElem?_set_self (by rw [wl]; exact hi0)]
              refine thnF (xt.run _ s8 _ H8 (fun bb H' => bb = ys[i] ∧ H' = H8) I9 ⟨ys[i], at1, rfl, rfl⟩) fun bb s9 ⟨H9, I10, ebb, eH9⟩ => ?_
              subst eH9
              have sn := sel_snoc xs ys i xs[i] ys[i] (by simp [hlt]) (by simp [hlt2])
              have fin : ∀ {s' : Shared} {H' : Hp}, Inv (X.blk s3 H3 scope ce fp) ([p] ++ pinsAt fp g2) (((wipe σ own).set i0 (some (.str xs[i]))).set i1 (some (.bl ys[i]))) H' s' → Pv (i + 1) H' → ∃ m, m < xs.length - i ∧ ∃ i H', m = xs.length - i ∧ i ≤ xs.length ∧ Inv (X.blk s3 H3 scope ce fp) [p] (wipe σ own) H' s' ∧ ZS s'.heap z TI TO j1 j2 a b i ∧ (∀ c ∈ fp, H' c = none) ∧ Pv i H' := fun {s' H'} J PP => by
                have pin' : ∀ c ∈ fp, ∀ o, g2.get? c = some o → s'.heap.get? c = some o ∧ H' c = none := fun c hc o e =>
                  let y := J.pin (c, o) (List.mem_append_right _ (List.mem_append_right _ (mem_pinsAt hc e)))
                  ⟨y.1, y.2.1⟩
                rw [eg] at Z6
                refine ⟨xs.length - (i + 1), by omega, i + 1, H', rfl, hlt, (J.unpinned (pins := [p])).weak (by rw [List.length_set, List.length_set]) (fun j v e => ?_), Z6.at fun c hc o e => (pin' c hc o e).1, fun c hc => ?_, PP⟩
                · have nj := (wipe_some e).2
                  have n0 : i0 ≠ j := fun q => nj (by simp [own, q])
                  have n1 : i1 ≠ j := fun q => nj (by simp [own, q])
                  rw [List.getElem?_set_ne n1, List.getElem?_set_ne n0]
                  exact e
                · obtain ⟨o, e, _⟩ := Z6.obj c hc
                  exact (pin' c hc o e).2
              cases hb : ys[i] with
              | false =>
                rw [hb] at ebb sn
                subst ebb
                simp only [Bool.false_eq_true, if_false]
                rw [hb] at fin I10
                refine fin I10 ⟨P6.1, ?_⟩
                rw [sn, List.append_nil]
                exact P6.2
              | true =>
                rw [hb] at ebb sn at0
                subst ebb
                simp only [if_true]
                rw [hb] at fin I10
                refine thnF (xe.run _ s9 _ H9 (fun v H' => v = .str xs[i] ∧ H' = H9) I10 ⟨_, at0, rfl, rfl⟩) fun y s10 ⟨yv, H10, I11, r11, e11, eH11⟩ => ?_
                subst e11 eH11
                have lz : ((sel (xs.take i) (ys.take i)).map V.str).length < sizeLine := by
                  have h1 := sel_len (xs.take i) (ys.take i)
                  rw [List.length_take] at h1
                  rw [List.length_map, sizeLine_eq]
                  omega
                refine app_ok (X := X.blk s3 H3 scope ce fp) I11 P6.2 lz r11 fun s11 I12 => fin I12 ⟨fun c o e => ?_, ?_⟩
                · rw [upd_ne (ne_of_none e nD)]
                  exact P6.1 c o e
                · rw [upd_same, sn, List.map_append]
                  rfl
            · have ei : i = xs.length := by omega
              subst ei
              have hot5 : HotAt X.A p.1 s5.heap := by
                obtain ⟨v1, d1, c1⟩ := hot.2
                exact ⟨hot.1, p.2, v1, (I5.pin p (List.mem_append_right _ List.mem_cons_self)).1, d1, c1⟩
              refine zip_end_hot (x1 := p.1) hot5 ap.i1z ap.l1z Z5.z Z5.ti Z5.l1 ga.isList (by simp [← ka]) fun g' k' => ?_
              have I6 : Inv (X.blk s3 H3 scope ce fp) [p] (wipe σ own) H5 { s5 with heap := g' } := I5.turnedL (t' := s5.toks) (ch := fp) (fun c o hb q => k' c o (fun e => hb (by simp [fp, e])) (fun e => hb (by simp [fp, e])) q) (stat I5 n5)
              generalize hs6 : ({ s5 with heap := g' } : Shared) = s6 at I6 ⊢
              have I7 : Inv X pins σ H5 s6 := I3.call' (ch := fp) I6.os I6.base I6.hok I6.bare fun c hc => ⟨(f3 c hc).1.2.2.2.1, (f3 c hc).1.2.1, (f3 c hc).1.2.2.2.2.1, (f3 c hc).1.2.2.2.2.2⟩
              have nC : H5 s3.heap.objs.size = none := by
                have q : H5 ce.locals = none := I6.free
                rw [cL] at q
                exact q
              obtain ⟨m, hm6, _⟩ := I6.loc
              have hm6 : s6.heap.Ns ce.locals m := hm6
              rw [cL] at hm6
              obtain ⟨f0, f1, f2', f3', f4, f5⟩ := I3.fpOk (H' := H5) (Nat.le_refl _) nC
              refine ⟨m, hm6, fun g'' sb => ⟨.ref D, H5, I7.turned (t' := s6.toks) (fun c o hc e => (sb.2 c hc).trans e) f0 f1 f3' f4 f5, rfl, z1 D H5 nD P5.1 ?_⟩⟩
              have := P5.2
              rw [List.take_length, hlen, List.take_length] at this
              exact this
          · intro c o e
            rw [← hH3, upd_ne (ne_of_none e nD)]
            exact e
          · rw [← hH3, upd_same]
            rfl
        exact codeAny_compStart_list loop (wpAny_pyIter_zip zs5.z loop)
end
end HN
namespace HN
open PySem PySem.Spec PyProof.Rows L2 HotX L2H
section
variable {Y : Cx} {p : Addr × Obj} {D : Addr} {x ev : Str} {q1 q2 q3 q4 : Pos} {es : List Expr} {bs : List Bool} {b : Bool}
theorem isE_at (hp : p ∈ Y.pn) (C : ExcC Y.K D) (hz : Zc (.ref D) none p.2) (hf : ∃ vs, p.2.data = .fields vs) : CallR Y (.builtin "isinstance") (rIsE Y.K D p.1) := by
  intro pz sz σz Hz us ws Qz J r hq
  obtain ⟨cc, cw, bb, rfl, hw, ek, q⟩ := hq
  cases r with
  | cons r1 rr => cases rr with
    | cons r2 rr => cases rr with
      | nil =>
        cases r1
        have e2 := hw _ r2
        subst e2
        have g := (J.pin p (List.mem_append_left _ hp)).1
        obtain ⟨pa, po⟩ := p
        obtain ⟨oc, od, oda, osl⟩ := po
        obtain ⟨vs, ev⟩ := hf
        obtain ⟨z1, z2⟩ := hz
        dsimp only at z1 z2 ev g
        subst z1 z2 ev
        exact PySem.W.kia_one (H := fun h => PySem.W.InstAt h pa _ D none) (PySem.W.handS_kitx_exc C.hg C.hk C.hs C.hd C.ha C.hn C.ht C.hm) J.kIn ⟨g, rfl, rfl, trivial⟩ ek (fun z => nomatch z) fun tk => ⟨.bl bb, Hz, J.kept (t' := tk) fun _ _ z => z, rfl, q⟩
def tBs (a : Addr) (bs : List Bool) : TA := fun σ H Q => σ[0]? = some (some (.ref a)) ∧ Q (bs.map V.bl) H
theorem paI {es : List Expr} {t t' : TA} (h : PA Y es t) (i : ∀ σ H Q, t' σ H Q → t σ H Q) : PA Y es t' := ⟨fun a pins s σ H Q I q => h.run a pins s σ H Q I (i σ H Q q)⟩
theorem nb_nil {a : Addr} : PA Y [] (tBs a []) := paI pa_nil fun σ H Q q => q.2
theorem nb_step {e : Expr} {r : List V → Hp → VK → Prop} {a : Addr} {c : V} (hr : r = rIsE Y.K D a) (h : PE Y e (tCB r (tCons (tVar 0) (tCons (tC c) tNil)))) (cw : Value) (hw : ∀ u, RelV c u → u = cw) (k : PySem.W.kitOne Y.K (.ref D) cw = some b) (hs : PA Y es (tBs a bs))
    (he : starEach (e :: es) Y.env = (false, eval e Y.env) :: starEach es Y.env) : PA Y (e :: es) (tBs a (b :: bs)) := by
  subst hr
  exact paI (pa_cons h hs he) fun σ H Q q => ⟨_, q.1, c, cw, b, rfl, hw, k, q.1, q.2⟩
theorem nb_ref (hE : CallR Y (.builtin "isinstance") (rIsE Y.K D p.1)) (hm : Y.mg "isinstance" = none) {c : Addr} (hx : Y.mg x = some (.ref c)) (k : PySem.W.kitOne Y.K (.ref D) (.ref c) = some b) (hs : PA Y es (tBs p.1 bs)) (hN : Y.N[0]? = some ev := by rfl) (hv : Vis Y.env.scope ev := by exact Or.inl rfl)
    (gi : Gl Y "isinstance" := by rfl) (gx : Gl Y x := by rfl) (d1 : (x == ("__debug__" : Str)) = false := by decide) (d2 : (ev == ("__debug__" : Str)) = false := by decide) (d3 : (ev == ("__classdict__" : Str)) = false := by decide) :
    PA Y (.Call (.Name "isinstance" q1) [.Name ev q2, .Name x q3] [] q4 :: es) (tBs p.1 (b :: bs)) :=
  nb_step rfl (pe_callB hE gi hm (by kernel_rfl) (pa_cons (pe_var hN hv d2 d3) (pa_cons (pe_glob (v := .ref c) gx hx rfl d1) pa_nil (by rfl)) (by rfl)) (by decide) (by decide) (by rfl) (by rfl)) (.ref c) (fun _ e => e) k hs (by rfl)
theorem nb_ty (hE : CallR Y (.builtin "isinstance") (rIsE Y.K D p.1)) (hm : Y.mg "isinstance" = none) {T : String} (hx : Y.mg x = none) (hb : bootBuiltins x = some (.type T)) (k : PySem.W.kitOne Y.K (.ref D) (.type T) = some b) (hs : PA Y es (tBs p.1 bs)) (hN : Y.N[0]? = some ev := by rfl) (hv : Vis Y.env.scope ev := by exact Or.inl rfl)
    (gi : Gl Y "isinstance" := by rfl) (gx : Gl Y x := by rfl) (d0 : x ≠ "__name__" := by decide) (d1 : (x == ("__debug__" : Str)) = false := by decide) (d2 : (ev == ("__debug__" : Str)) = false := by decide) (d3 : (ev == ("__classdict__" : Str)) = false := by decide) :
    PA Y (.Call (.Name "isinstance" q1) [.Name ev q2, .Name x q3] [] q4 :: es) (tBs p.1 (b :: bs)) :=
  nb_step rfl (pe_callB hE gi hm (by kernel_rfl) (pa_cons (pe_var hN hv d2 d3) (pa_cons (pe_bltn (v := .ty T) gx hx hb rfl d0 d1) pa_nil (by rfl)) (by rfl)) (by decide) (by decide) (by rfl) (by rfl)) (.type T) (fun _ e => e) k hs (by rfl)
end
/-! ### what its body does -/
/-- the reading of the comprehension -/
def tZip (K : PySem.W.Frag) (i0 i1 : Nat) (t1 : TA) : TE := fun σ H Q => t1 σ H fun vs H1 => ∃ a b xs ys, vs = [.ref a, .ref b] ∧ SqL K H1 a (xs.map V.str) ∧ SqL K H1 b (ys.map V.bl) ∧ xs.length = ys.length ∧ xs.length ≤ 1000 ∧ i0 < σ.length ∧ i1 < σ.length ∧ i0 ≠ i1 ∧
  ∀ D H2, H1 D = none → (∀ c o, H1 c = some o → H2 c = some o) → H2 D = some (.lst ((sel xs ys).map V.str)) → Q (.ref D) H2
def tSplit (to te : TE) : TE := tM1 (fun x xs H Q => ∃ a b, x = .str a ∧ xs = [.str b] ∧ (b.length == 0) = false ∧ a.length + 2 ≤ sizeLine ∧ rNewStrs (Txt.split a b) H Q) to te
def tJoin (K : PySem.W.Frag) (to te : TE) : TE := tM1 (fun x xs H Q => ∃ a p, ∃ ys : List Str, x = .str a ∧ xs = [.ref p] ∧ (SqL K H p (ys.map V.str) ∨ SqT K H p (ys.map V.str)) ∧ (ys.map (·.length)).sum + ys.length * a.length ≤ 16777216 ∧ Q (.str (Txt.join a ys)) H) to te
def tNames (K : PySem.W.Frag) (a : Addr) (bs : List Bool) (L B : Str) : TS :=
  tSeq (tAsg (tLst (tBs a bs)) (gName 1)) (tSeq (tAsg (tC (.str L)) (gName 2)) (tRet (tJoin K (tC (.str B)) (tZip K 3 4 (tCons (tSplit (tVar 2) (tC (.str B))) (tCons (tVar 1) tNil))))))
/-- the text it makes -/
def namesT (bs : List Bool) (L B : Str) : Str := Txt.join B (sel (Txt.split L B) bs)
theorem names_read {K : PySem.W.Frag} {a : Addr} {bs : List Bool} {L B : Str} {D : Ends} {σ : L2.St} {H : Hp} (hl : σ.length = 5) (h0 : σ[0]? = some (some (.ref a))) (hB : (B.length == 0) = false) (hL : L.length ≤ 1000) (hn : (Txt.split L B).length = bs.length) (hb : bs.length ≤ 1000)
    (hz : ((sel (Txt.split L B) bs).map (·.length)).sum + (sel (Txt.split L B) bs).length * B.length ≤ 16777216) (q : ∀ H', (∀ c o, H c = some o → H' c = some o) → D.rt (.str (namesT bs L B)) H') : tNames K a bs L B D σ H := by
  have sz : 1002 ≤ sizeLine := by rw [sizeLine_eq]; decide
  refine ⟨h0, by rw [List.length_map]; omega, fun p1 n1 => ?_⟩
  refine ⟨⟨B, rfl⟩, ?_⟩
  refine ⟨.str L, by rw [List.getElem?_set_self (by rw [List.length_set, hl]; decide)], ⟨L, rfl⟩, ?_⟩
  refine ⟨L, B, rfl, rfl, hB, by omega, fun p2 n2 => ?_⟩
  refine ⟨_, by rw [List.getElem?_set_ne (by decide), List.getElem?_set_self (by rw [hl]; decide)], ?_⟩
  refine ⟨p2, p1, Txt.split L B, bs, rfl, .inl (.inl upd_same), .inl (.inl ?_), hn, by omega, by rw [List.length_set, List.length_set, hl]; decide, by rw [List.length_set, List.length_set, hl]; decide, by decide, fun D2 H2 nD k e => ?_⟩
  · rw [upd_ne (ne_of_none upd_same n2), upd_same]
  · refine ⟨B, D2, sel (Txt.split L B) bs, rfl, rfl, .inl (.inl (.inl e)), hz, q H2 fun c o e2 => k c o ?_⟩
    have e3 : upd H p1 (HO.lst (bs.map V.bl)) c = some o := by
      rw [upd_ne (ne_of_none e2 n1)]
      exact e2
    rw [upd_ne (ne_of_none e3 n2)]
    exact e3
end HN
namespace HN
open PySem PySem.Spec PyProof.Rows L2
theorem pt_good {X : Cx} {e : Expr} {i : Nat} (h : PE X e (tVar i)) (he : ∀ whole, isTrue e X.env whole = (do let v ← whole; standAt e.pos; holding [v] (truthy v)) := by intro _; rfl) : PTs X [e] (fun σ H Q => ∃ b, σ[i]? = some (some (.bl b)) ∧ Q b H) := by
  refine pts_one ⟨fun pins s σ H Q I ⟨b, e, q⟩ => (pt_val h he).run pins s σ H Q I ?_⟩
  exact ⟨_, e, b, rfl, q⟩
end HN
namespace DL
open PySem PySem.Spec PyProof.Rows L2 L2H
/-! ### the def that tells an error's names -/
structure NamesC (P : Program) (w : World) (K : PySem.W.Frag) (mg : Str → Option Value) (base : Heap) (k : Nat) (x : Str) (D : Addr) (text : Str) : Prop where
  run : ∀ (A : Around) (outer : List Env) (s : Shared) (H : Hp) (p : Addr × Obj) (Q : VK) (E : XK), RoomH k A → Hot1 A p → PinOk outer H s p → Env0 P w K mg base A outer s H → Zc (.ref D) none p.2 → (∃ vs, p.2.data = .fields vs) →
    (∀ H', (∀ c o, H c = some o → H' c = some o) → Q (.str text) H') → codeAny (model P w) A (.call (.ref (He.ga K x)) ⟨[.ref p.1], []⟩) (CR (L2N.CX P w) outer P w H s Q E) s
  mx : mg x = some (.ref (He.ga K x))
  kp : PySem.W.keepIn K (.ref (He.ga K x)) = true
theorem names_mk {P : Program} {w : World} {K : PySem.W.Frag} {mg : Str → Option Value} {base : Heap} {k : Nat} {x ev : Str} {D : Addr} {st : Stmt} {fd : FuncData} {N : List Str} {bs : List Bool} {L B : Str} (F : L2.Fun K x x st (He.ga K x) fd) (S : FnScope N [ev] (defScope st)) (hm : mg x = some (.ref (He.ga K x))) (hb : L2.Binds K fd [ev] [])
    (hN : N.length = 5) (hB : (B.length == 0) = false) (hL : L.length ≤ 1000) (hn : (Txt.split L B).length = bs.length) (hbs : bs.length ≤ 1000) (hz : ((HN.sel (Txt.split L B) bs).map (·.length)).sum + (HN.sel (Txt.split L B) bs).length * B.length ≤ 16777216)
    (hbody : ∀ (cdv : Value) (A : Around) (outer : List Env) (s : Shared) (H : Hp) (E : XK) (p : Addr × Obj), Hot1 A p → Zc (.ref D) none p.2 → (∃ vs, p.2.data = .fields vs) → RoomH k (A.deeper (envOfC x (defScope st) s.heap.objs.size (He.ga K x) cdv)) →
      PSs (cxH (L2N.CX P w) P w K mg base N x (defScope st) (He.ga K x) cdv A outer s H E p) (defBody st) (HN.tNames K p.1 bs L B)) : NamesC P w K mg base (k + 1) x D (HN.namesT bs L B) := by
  refine ⟨fun A outer s H p Q E hr hot pin e0 zc fl hq => ?_, hm, F.kp⟩
  obtain ⟨oc, od, kV, doc, pm, an, cdv, ct, osl, rfl, lk, hcd⟩ := F.ex
  have kx : K.In s.heap := e0.mod.kin.keeps fun b o e => (e0.bs b o e).1
  have nolim : s.heap.NoLimit := e0.mod.nolimit.keeps fun b o e => (e0.bs b o e).1
  have kinds : ∀ y ∈ ([ev].zip [Value.ref p.1]), (defScope st).names.lookup y.1 = some .local ∨ ((defScope st).names.lookup y.1 = some .cell ∧ ((cellsFrom (s.heap.objs.size + 1) (defScope st).names []).lookup y.1).isSome = true) := fun y hy => by
    obtain ⟨n, v⟩ := y
    exact (S.par n (List.of_mem_zip hy).1).imp id fun q => ⟨q, PySem.W.cellsFrom_some _ _ _ (.inl q)⟩
  have hb1 := hb s [.ref p.1] kx rfl
  rw [List.append_nil] at hb1
  refine codeAny_call_function hr.depth (kx _ _ lk) rfl S.co S.gen rfl (PySem.W.codeRec_of kx hcd) (hb1 _ _ _ _ ?_)
  refine wpAny_newFunctionEnv_cells S.kind kinds fun env he s1 xc => ?_
  subst he
  refine ⟨nolim.keeps xc.toInCall.keep, codeAny_func ?_⟩
  have I := inv_startH (CX := L2N.CX P w) (P := P) (w := w) (K := K) (mg := mg) (base := base) (f := He.ga K x) (cd := cdv) (A := A) (E := E) (qual := x) S pin e0 (vs := [V.ref p.1]) rfl (.cons rfl .nil) xc
  have hst : (L2.start N [V.ref p.1]).length = 5 := by
    unfold L2.start
    rw [List.length_append, List.length_map, List.length_replicate, hN]
    rfl
  have hs0 : (L2.start N [V.ref p.1])[0]? = some (some (V.ref p.1)) := rfl
  have B0 := hbody cdv A outer s H E p hot zc fl (hr.deeper _)
  refine wpAny_mono (B0.run [] s1 (L2.start N [V.ref p.1]) H { nx := fun _ _ => False, rt := Q } I (HN.names_read hst hs0 hB hL hn hbs hz hq)) (fun fl s' hs => ?_) fun e s' hs => hs
  cases fl with
  | ret u =>
    obtain ⟨v, σ', H', J, rv, q⟩ := hs
    exact ⟨v, H', J.os, J.bare, J.base, J.hok, rv, q⟩
  | next =>
    obtain ⟨_, _, _, q⟩ := hs
    exact q.elim
  | brk =>
    obtain ⟨_, _, _, q⟩ := hs
    exact False.elim q
  | cont =>
    obtain ⟨_, _, _, q⟩ := hs
    exact False.elim q
section
variable {X : Cx} {G : Gx} {W : WX} {k i : Nat} {x ev : Str} {D : Addr} {text : Str} {q1 q2 pos : Pos}
/-- the suite's expression: what it gives of an error of the class at D -/
def SuE (X : Cx) (G : Gx) (i : Nat) (D : Addr) (e : Expr) (h : DL.D) : Prop := ∀ (a : Addr) (oe : Obj) (pn : List (Addr × Obj)), L2N.Zn (.ref D) none oe → (∃ vs, oe.data = .fields vs) →
  PE (X.suite a ((a, oe) :: pn)) e (fun σ H Q => σ[i]? = some (some (.ref a)) ∧ ∀ H' v, (∀ b o, H b = some o → H' b = some o) → (∀ φ, Rp X.K G φ H' h v) → Q v H')
theorem su_names {s : List Nat} (c : NamesC X.prog X.w X.K X.mg X.base k x D text) (hr : RoomH k X.A) (ht : text = ⟨s.toArray⟩) (hs : (s.all fun c => decide (c < 0x110000)) = true) (hN : X.N[i]? = some ev) (hv : Vis X.env.scope ev) (hg : Gl X x := by rfl) (hdb : (x == ("__debug__" : Str)) = false := by decide)
    (d2 : (ev == ("__debug__" : Str)) = false := by decide) (d3 : (ev == ("__classdict__" : Str)) = false := by decide) (hst : starEach [.Name ev q2] X.env = (false, eval (.Name ev q2) X.env) :: starEach [] X.env := by rfl) : SuE X G i D (.Call (.Name x q1) [.Name ev q2] [] pos) (.str s) := by
  subst ht
  intro a oe pn zn fl
  refine ⟨fun pins st σ H Q I ⟨h0, hq⟩ => ?_⟩
  refine wpAny_Call_Name_kw (ld_glob I hg c.mx ?_ hdb)
  refine PySem.W.callWith_K (h₀ := X.base) I.ok.mod.kin c.kp ?_ (by exact hst) (by rfl)
  show wpAny _ _ (spliced (backTo pos (starEach [.Name ev q2] X.env))) _ _ st
  rw [hst]
  show wpAny _ _ (spliced ((false, eval (.Name ev q2) X.env) :: backTo pos (starEach [] X.env))) _ _ st
  refine Calls.spliced_cons (thn ((pe_var (X := X.suite a ((a, oe) :: pn)) (pos := q2) (i := i) hN hv d2 d3).run pins st σ H (fun v H1 => v = .ref a ∧ H1 = H) I ⟨.ref a, h0, rfl, rfl⟩) fun u s1 ⟨v, H1, I1, r1, e1, e2⟩ => ?_)
  subst e1 e2
  obtain rfl : u = Value.ref a := r1
  refine Calls.spliced_nil ⟨I1.kIn, ?_⟩
  have P1 := I1.pin (a, oe) (List.mem_append_left _ List.mem_cons_self)
  have pin : PinOk (X.suite a ((a, oe) :: pn)).stack H1 s1 (a, oe) := ⟨P1.1, P1.2.1, fun hm => (List.mem_cons.mp (I1.stkSub a hm)).elim P1.2.2.1 P1.2.2.2.1, P1.2.2.2.2⟩
  have hot : Hot1 (X.suite a ((a, oe) :: pn)).A (a, oe) := ⟨rfl, by
    obtain ⟨vs, e⟩ := fl
    obtain ⟨_, _, z⟩ := zn
    exact ⟨vs, e, z vs e⟩⟩
  have rc := c.run (X.suite a ((a, oe) :: pn)).A X.stack s1 H1 (a, oe) Q (fun _ _ _ => False) ⟨hr.dp, hr.un⟩ hot pin I1.env0 zn.zc fl fun H' k2 => hq H' _ k2 fun _ => .str hs
  refine wpAny_call (codeAny_mono rc fun r s2 h2 => ?_)
  cases r with
  | error e =>
    obtain ⟨_, _, _, _, _, _, _, _, _, _, _, _, z⟩ := h2
    exact z.elim
  | ok fl =>
    cases fl with
    | ret u => exact I1.after h2
    | next => exact False.elim h2
    | brk => exact False.elim h2
    | cont => exact False.elim h2
theorem su_pair {e : Expr} {h : DL.D} {j kk : Nat} {cp : Pos} (s : SuE X G i D e h) (he : ∀ env, env = X.env → starEach [e] env = (false, eval e env) :: starEach [] env) (hz : ∀ env, env = X.env → starEach [.Constant .none j cp, e] env = (false, eval (.Constant .none j cp) env) :: starEach [e] env) : SuE X G i D (.Tuple [.Constant .none j cp, e] kk pos) (.tup [.non, h]) := by
  intro a oe pn zn fl
  refine peImp (pe_tup (pa_cons pe_non (pa_cons (s a oe pn zn fl) pa_nil (he _ rfl)) (hz _ rfl))) fun σ H Q ⟨h0, hq⟩ => ?_
  refine ⟨h0, fun H' v k r => ⟨by show 2 ≤ sizeLine; rw [sizeLine_eq]; decide, fun p np => hq _ _ (fun b o e => ?_) fun φ => .tup (SqT.of upd_same) (.cons .non (.cons ((r φ).mono (Ext.new np)) .nil))⟩⟩
  rw [upd_ne (ne_of_none (k b o e) np)]
  exact k b o e
end
/-! ### try, except x as n: return e -/
def sTry (nE i : Nat) (b : MS) (h : Nat → D) : MS := fun ρ st => match b ρ st with
  | .exc c ρ' st' => (match decide (c < nE) && decide (i < ρ'.length) with
    | true => .rt (h c) st'
    | false => .bad)
  | r => r
theorem st_try {X : Cx} {G : Gx} {W : WX} {x n : Str} {c : Addr} {i nE : Nat} {body : List Stmt} {e : Expr} {np pr pos' pos : Pos} {b : MS} {h : Nat → D} (hs : X.stack = X.env :: X.outer) (hf : X.env.frame = some X.env.locals) (hN : X.N.Nodup) (hi : X.N[i]? = some n) (hln : X.env.kindOf n = some .local)
    (hc : L2.Names X x (.ref c)) (tk : L2N.Takes X W) (hb : ∀ (W : WX) (pn : List (Addr × Obj)) (xe : Value → Shared → Prop), L2N.Takes (X.tr pn xe) W → PassesOwn (model X.prog X.w) X.A X.env xe → SS (X.tr pn xe) G W body b)
    (hsu : ∀ j, j < nE → PySem.W.exmOne X.K (.ref (G.tb.exs j)) (.ref c) = some true ∧ SuE X G i (G.tb.exs j) e (h j)) :
    ST X G W (.Try body [.ExceptHandler (some (.Name x np)) (some n) [.Return (some e) pr] pos'] [] [] pos) (sTry nE i b h) := by
  let ts : Addr → Value → Option Addr → TS := fun a cls d De σ H => ∃ j, j < nE ∧ cls = .ref (G.tb.exs j) ∧ d = none ∧ σ[i]? = some (some (.ref a)) ∧ ∀ H' v, (∀ b o, H b = some o → H' b = some o) → (∀ φ, Rp X.K G φ H' (h j) v) → De.rt v H'
  refine psImp (L2N.ps_try_as (ts := ts) (tb := fun W => tMS X.K G W b) (Wout := W) hs hf hN hi hln hc tk hb fun a oe cls d pn zn fl => ⟨fun pins s σ H De I q => ?_⟩) fun De σ H ⟨φ, ρ, st, so, p⟩ => ⟨φ, ρ, st, so, ?_⟩
  · obtain ⟨j, hj, e1, e2, h0, hq⟩ := q
    subst e1 e2
    exact (pss_one (ps_ret ((hsu j hj).2 a oe pn zn fl))).run pins s σ H De I ⟨h0, hq⟩
  · unfold sTry at p
    cases q : b ρ st with
    | nx ρ' st' => rw [q] at p; exact p
    | rt d st' => rw [q] at p; exact p
    | bk ρ' st' => rw [q] at p; exact p
    | ct ρ' st' => rw [q] at p; exact p
    | bad => rw [q] at p; exact p
    | exc cc ρ' st' =>
      rw [q] at p
      intro φ2 H2 σ2 x2 so2
      cases hj : decide (cc < nE) && decide (i < ρ'.length) with
      | false => simp only [hj] at p; exact p.elim
      | true =>
        simp only [hj] at p
        obtain ⟨hj1, hj2⟩ := Bool.and_eq_true_iff.mp hj
        have hj' := of_decide_eq_true hj1
        have hl : i < σ2.length := by
          rw [so2.e.len]
          exact of_decide_eq_true hj2
        refine ⟨true, (hsu cc hj').1, fun _ a na => ⟨cc, hj', rfl, rfl, by rw [List.getElem?_set_self hl], fun H3 v k r => ?_⟩, fun z => by cases z⟩
        exact p φ2 H3 v (x2.trans (Ext.of_same k)) (so2.s.same k) (r φ2)
end DL
namespace DL
open PySem PySem.Spec PyProof.Rows L2
section
variable {X : Cx} {G : Gx} {W : WX} {σ : St} {φ : List Addr} {H : Hp} {st : Store}
/-! ### str(i), int(s) of one figure -/
def dStr1 : D → M D
  | .int i => chk (decide (0 ≤ i) && decide (i < 10)) (ret (.str [48 + i.toNat]))
  | .str s => ret (.str s)
  | _ => fail
theorem fig (n : Nat) (h : n < 10) : ((toString (n : Int) : String) : Str) = ⟨#[48 + n]⟩ := by
  match n, h with
  | 0, _ | 1, _ | 2, _ | 3, _ | 4, _ | 5, _ | 6, _ | 7, _ | 8, _ | 9, _ => decide +kernel
theorem fig2 (n : Nat) (h : n < 10) : PySem.intText? ⟨#[48 + n]⟩ = some (n : Int) := by
  match n, h with
  | 0, _ | 1, _ | 2, _ | 3, _ | 4, _ | 5, _ | 6, _ | 7, _ | 8, _ | 9, _ => decide +kernel
theorem CallR.or {f : Value} {r r' : List V → Hp → VK → Prop} (h : CallR X f r) (h' : CallR X f r') : CallR X f (fun xs H Q => r xs H Q ∨ r' xs H Q) :=
  fun pins s σ H xs us Q I rv q => q.elim (h pins s σ H xs us Q I rv) (h' pins s σ H xs us Q I rv)
theorem cd_str : CallD X G (fun xs H Q => (∃ i, xs = [V.int i] ∧ i.natAbs.log2 < 1920 ∧ Q (.str (toString i)) H) ∨ ∃ a, xs = [V.str a] ∧ Q (.str a) H) (f1 dStr1) := cd1 fun φ H st d v W σ Q s r p => by
  cases r with
  | @int i =>
    obtain ⟨c, p1⟩ := Post.chk p
    obtain ⟨c1, c2⟩ := Bool.and_eq_true_iff.mp c
    have h1 := of_decide_eq_true c1
    have h2 := of_decide_eq_true c2
    obtain ⟨n, rfl⟩ := Int.eq_ofNat_of_zero_le h1
    have hn : n < 10 := by omega
    refine .inl ⟨_, rfl, ?_, ?_⟩
    · have : (n : Int).natAbs = n := by omega
      rw [this]
      match n, hn with
      | 0, _ | 1, _ | 2, _ | 3, _ | 4, _ | 5, _ | 6, _ | 7, _ | 8, _ | 9, _ => decide +kernel
    · rw [fig n hn]
      exact postNow (W := W) (σ := σ) s p1 _ (.str (by simp; omega))
  | str h => exact .inr ⟨_, rfl, postNow (W := W) (σ := σ) s p _ (.str h)⟩
  | _ => exact p.elim
def dInt1 : D → M D
  | .int i => ret (.int i)
  | .bl b => ret (.int (if b then 1 else 0))
  | .str [c] => chk (decide (48 ≤ c) && decide (c < 58)) (ret (.int ((c - 48 : Nat) : Int)))
  | _ => fail
theorem cd_int1 : CallD X G (fun xs H Q => ((∃ i, xs = [V.int i] ∧ Q (.int i) H) ∨ ∃ k, xs = [V.bl k] ∧ Q (.int (if k then 1 else 0)) H) ∨ ∃ a n, xs = [V.str a] ∧ PySem.intText? a = some n ∧ a.length ≤ 640 ∧ Q (.int n) H) (f1 dInt1) := cd1 fun φ H st d v W σ Q s r p => by
  cases r with
  | int => exact .inl (.inl ⟨_, rfl, postNow (W := W) (σ := σ) s p _ .int⟩)
  | bl => exact .inl (.inr ⟨_, rfl, postNow (W := W) (σ := σ) s p _ .int⟩)
  | @str z h =>
    match z, p with
    | [], p => exact p.elim
    | [c], p =>
      obtain ⟨k, p1⟩ := Post.chk p
      obtain ⟨c1, c2⟩ := Bool.and_eq_true_iff.mp k
      have h1 := of_decide_eq_true c1
      have h2 := of_decide_eq_true c2
      refine .inr ⟨_, ((c - 48 : Nat) : Int), rfl, ?_, by rw [str_len]; show 1 ≤ 640; decide, postNow (W := W) (σ := σ) s p1 _ .int⟩
      have := fig2 (c - 48) (by omega)
      rw [show 48 + (c - 48) = c by omega] at this
      exact this
    | _ :: _ :: _, p => exact p.elim
  | _ => exact p.elim
/-! ### text times number -/
def rMulS : R2 := fun x y H Q => ∃ (a : Str) (n : Int), x = .str a ∧ y = .int n ∧ 0 ≤ n ∧ n ≤ 1000 ∧ a.length ≤ 1000 ∧ Q (.str ⟨(List.replicate n.toNat a.cps.toList).flatten.toArray⟩) H
theorem fold_flat (c : Array Nat) : ∀ (n : Nat) (acc : Array Nat), (List.replicate n c).foldl (· ++ ·) acc = acc ++ (List.replicate n c.toList).flatten.toArray
  | 0, acc => by simp
  | n + 1, acc => by
    rw [List.replicate_succ, List.foldl_cons, fold_flat c n, List.replicate_succ, List.flatten_cons, Array.append_assoc]
    congr 1
    rw [← List.append_toArray]
theorem op_mulS : OpR X (binaryOp .Mult) rMulS := by
  intro pins s σ H x y u v Q I rx ry ⟨a, n, ex, ey, h0, h1, h2, q⟩
  subst ex ey
  obtain ⟨t, rfl⟩ := rx
  obtain ⟨t', rfl⟩ := ry
  have al : a.cps.toList.length = a.length := by simp [Str.length]
  refine PySem.P.mul_str (by rw [Bool.or_eq_false_iff]; exact ⟨decide_eq_false (by omega), decide_eq_false (by omega)⟩) (fun c1 c2 => ?_) (fun c1 c2 => ?_) ?_
  · have h3 : n * 1000 ≤ 2 ^ 63 - 1 := by omega
    have h4 : (1000 : Int) ≤ (2 ^ 63 - 1) / n := (Int.le_ediv_iff_mul_le (by omega)).mpr (by omega)
    omega
  · have h3 : a.length * n.toNat ≤ 1000 * 1000 := Nat.mul_le_mul h2 (by omega)
    unfold Builtin.Str.tooLong
    rw [sizeLine_eq]
    exact decide_eq_false (by omega)
  · by_cases c1 : n < 1
    · rw [if_pos c1]
      have e : n = 0 := by omega
      subst e
      exact ⟨by decide, .str _, H, I.tok _, ⟨_, rfl⟩, q⟩
    · rw [if_neg c1]
      by_cases c2 : (n == 1 || a.length == 0) = true
      · rw [if_pos c2]
        have e : (⟨(List.replicate n.toNat a.cps.toList).flatten.toArray⟩ : Str) = a := by
          rcases Bool.or_eq_true_iff.mp c2 with z | z
          · have e1 : n = 1 := by simpa using z
            subst e1
            simp
          · have e1 : a.cps.toList = [] := List.eq_nil_of_length_eq_zero (by rw [al]; simpa using z)
            have e2 : a = ⟨#[]⟩ := by
              obtain ⟨c⟩ := a
              have : c = #[] := by
                apply Array.toList_inj.mp
                exact e1
              rw [this]
            rw [e1, e2]
            simp
        rw [e] at q
        exact ⟨.str a, H, I, ⟨_, rfl⟩, q⟩
      · rw [if_neg c2]
        have e : (List.replicate n.toNat a.cps).foldl (· ++ ·) #[] = (List.replicate n.toNat a.cps.toList).flatten.toArray := by
          rw [fold_flat]
          simp
        rw [e]
        refine ⟨?_, .str _, H, I.tok _, ⟨_, rfl⟩, q⟩
        have h3 : n.toNat * a.length ≤ 1000 * 1000 := Nat.mul_le_mul (by omega) h2
        have h5 : (List.replicate n.toNat a.cps.toList).flatten.length = n.toNat * a.length := by
          rw [← al]
          simp [List.length_flatten]
        rw [str_len, h5, sizeLine_eq]
        omega
/-- a text times a number, or a list, or numbers -/
def dMulX (x y : D) : M D := match x, y with
  | .str s, .int n => chk (decide (0 ≤ n) && decide (n ≤ 1000) && decide (s.length ≤ 1000)) (ret (.str (List.replicate n.toNat s).flatten))
  | x, y => dMul x y
theorem op_mulX : OpR X (binaryOp .Mult) (fun x y H Q => rMulS x y H Q ∨ rMulD x y H Q) := OpR.or op_mulS op_mulD
theorem all_rep {s : List Nat} {q : Nat → Bool} (h : s.all q = true) : ∀ n : Nat, ((List.replicate n s).flatten).all q = true
  | 0 => rfl
  | n + 1 => by
    rw [List.replicate_succ, List.flatten_cons]
    exact all_app h (all_rep h n)
theorem od_mulX : OpD X G (fun x y H Q => rMulS x y H Q ∨ rMulD x y H Q) dMulX := fun φ H st dx dy x y W σ Q s rx ry p => by
  by_cases hc : ∃ z n, dx = .str z ∧ dy = .int n
  · obtain ⟨z, n, rfl, rfl⟩ := hc
    cases rx with
    | str hz =>
      cases ry
      obtain ⟨c, p1⟩ := Post.chk p
      obtain ⟨c12, c3⟩ := Bool.and_eq_true_iff.mp c
      obtain ⟨c1, c2⟩ := Bool.and_eq_true_iff.mp c12
      exact .inl ⟨_, _, rfl, rfl, of_decide_eq_true c1, of_decide_eq_true c2, by rw [str_len]; exact of_decide_eq_true c3, postNow (W := W) (σ := σ) s p1 _ (.str (all_rep hz _))⟩
  · right
    refine od_mul φ H st dx dy x y W σ Q s rx ry ?_
    have e : dMulX dx dy = dMul dx dy := by
      unfold dMulX
      split
      · rename_i z n
        exact absurd ⟨z, n, rfl, rfl⟩ hc
      · rfl
    rw [e] at p
    exact p
/-! ### s[::-1] -/
def dRev : D → M D
  | .str s => chk (decide (s.length ≤ LIM)) (ret (.str s.reverse))
  | .lst xs => chk (decide (xs.length ≤ LIM)) (ret (.lst xs.reverse))
  | .cel n => bnd (lLst (.cel n)) fun xs => ret (.lst xs.reverse)
  | _ => fail
def tRevS (te : TE) : TE := fun σ H Q => te σ H fun x H1 => ∃ z, x = .str z ∧ z.length ≤ sizeLine ∧ Q (.str ⟨z.cps.toList.reverse.toArray⟩) H1
theorem pick_rev (z : Str) : (Builtin.Str.strSliceIndices none none (-1) z.length).filterMap (z.cps[·]?) = z.cps.toList.reverse := by
  have e0 : Builtin.Str.strSliceIndices none none (-1) z.length = sliceRange ((z.length : Int) - 1) (-1) (-1) := rfl
  rw [e0, PySem.W.krv_sliceRange, PySem.W.krv_range, List.filterMap_reverse]
  congr 1
  exact PySem.W.krv_all z.cps
theorem pe_revS {e : Expr} {te : TE} {k : Nat} {p1 p2 p3 pos : Pos} (he : PE X e te) : PE X (.Subscript e (.Slice none none (some (.UnaryOp .USub (.Constant (.int 1) k p1) p2)) p3) pos) (tRevS te) := by
  refine ⟨fun pins s σ H Q I h => ?_⟩
  refine Subscript_ (thn (he.run pins s σ H _ I h) fun v s1 ⟨x, H1, I1, r1, z, ez, hz, q⟩ => ?_)
  subst ez
  obtain ⟨t, rfl⟩ := r1
  have ps : PO X (some (.UnaryOp .USub (.Constant (.int 1) k p1) p2)) (tPart (tUn (rU fun i => .int (-i)) (tC (.int 1)))) := po_some (pe_un un_neg pe_int)
  refine wpAny_Slice (thn (po_none.run pins s1 σ H1 (fun o H2 => o = none ∧ H2 = H1) I1 ⟨rfl, rfl⟩) fun vl s2 ⟨l, H2, I2, pl, el, e2⟩ => ?_)
  subst el e2
  refine thn (po_none.run pins s2 σ H2 (fun o H3 => o = none ∧ H3 = H2) I2 ⟨rfl, rfl⟩) fun vu s3 ⟨u, H3, I3, pu, eu, e3⟩ => ?_
  subst eu e3
  refine thn (ps.run pins s3 σ H3 (fun o H4 => o = some (-1) ∧ H4 = H3) I3 ⟨1, rfl, -1, rfl, rfl, rfl⟩) fun vs s4 ⟨o, H4, I4, pv, eo, e4⟩ => ?_
  subst eo e4
  have I5 : Inv X pins σ H4 { s4 with heap := s4.heap.push { cls := .type "slice", data := .fields #[vl, vu, vs] } } := I4.kept (t' := s4.toks) fun b ob q => Heap.get?_push_of_some _ q
  obtain ⟨l1, el1, el2⟩ := IsPart.raw pl
  obtain ⟨u1, eu1, eu2⟩ := IsPart.raw pu
  obtain ⟨v1, ev1, ev2⟩ := IsPart.raw pv
  show wpAny (model X.prog X.w) X.A (subscriptTail e (.Slice none none (some (.UnaryOp .USub (.Constant (.int 1) k p1) p2)) p3) (.str z t) (.ref s4.heap.objs.size)) (EP X pins σ Q) X.xe { s4 with heap := s4.heap.push { cls := .type "slice", data := .fields #[vl, vu, vs] } }
  refine tail_any (ops := [.str z t, .ref s4.heap.objs.size]) (typeIs_str _ z t) (F.slot_str_getitem.lookup) ?_ (by with_unfolding_all rfl)
  have hst : (v1.map (·.1)).getD 1 = -1 := by rw [ev2]; rfl
  refine wpAny_getItem_str_slice (l := l1) (u := u1) (st := v1) ⟨_, Heap.get?_push_size _ rfl, rfl, by rw [← eu1, ← el1, ← ev1]⟩ (by rw [hst]; rfl) ?_
  unfold sliceMade
  have hp : slicePicked z l1 u1 v1 = Builtin.Str.strSliceIndices none none (-1) z.length := by
    unfold slicePicked
    rw [hst, el2, eu2]
  rw [if_neg (by rw [hst]; simp), hp, pick_rev]
  exact ⟨by rw [str_len, List.length_reverse]; exact hz, .str _, H4, I5.tok _, ⟨_, rfl⟩, q⟩
end
end DL
namespace DL
open PySem PySem.Spec PyProof.Rows L2
section
variable {X : Cx} {G : Gx} {W : WX} {σ : St} {φ : List Addr} {H : Hp} {st : Store}
/-! ### xs[::-1] -/
theorem me_rev {e : Expr} {m : Env' → M D} {k : Nat} {p1 p2 p3 pos : Pos} (h : ME X G W e m) : ME X G W (.Subscript e (.Slice none none (some (.UnaryOp .USub (.Constant (.int 1) k p1) p2)) p3) pos) (m1 dRev m) := by
  refine ⟨fun pins s σ H Q I hq => ?_⟩
  have or : (tRevS (tM X.K G W m)) σ H Q ∨ (tRevL X.K (tM X.K G W m)) σ H Q := by
    obtain ⟨φ, ρ, st, so, p⟩ := hq
    have p1 := Post.bind p
    cases em : m ρ st with
    | bad => rw [em] at p1; exact p1.elim
    | exc c st' =>
      left
      refine ⟨φ, ρ, st, so, ?_⟩
      rw [em] at p1 ⊢
      exact p1
    | ok d st' =>
      rw [em] at p1
      cases d with
      | str z =>
        refine .inl ⟨φ, ρ, st, so, ?_⟩
        rw [em]
        intro φ1 H1 x1 s1 v r
        obtain ⟨c, p2⟩ := Post.chk (p1 φ1 H1 x1 s1)
        cases r with
        | str hz => exact ⟨_, rfl, by rw [str_len]; exact lim_line c, postNow (W := W) (σ := σ) s1 p2 _ (.str (by rw [List.all_reverse]; exact hz))⟩
      | lst xs =>
        refine .inr ⟨φ, ρ, st, so, ?_⟩
        rw [em]
        intro φ1 H1 x1 s1 v r
        obtain ⟨c, p2⟩ := Post.chk (p1 φ1 H1 x1 s1)
        cases r with
        | @lst _ a vs h1 h2 h3 rl =>
          refine ⟨a, vs, rfl, SqL.of h1, fun q nq => ?_⟩
          exact Post.made (G := G) (W := W) (σ := σ) s1 p2 nq _ (rp_lst s1 nq rl.reverse)
      | cel n =>
        refine .inr ⟨φ, ρ, st, so, ?_⟩
        rw [em]
        intro φ1 H1 x1 s1 v r
        obtain ⟨a, vs, xs, rfl, h1, rl, p3⟩ := lLst_of s1 r (Post.bind (p1 φ1 H1 x1 s1))
        refine ⟨a, vs, rfl, SqL.of h1, fun q nq => ?_⟩
        exact Post.made (G := G) (W := W) (σ := σ) s1 p3 nq _ (rp_lst s1 nq rl.reverse)
      | _ =>
        refine .inl ⟨φ, ρ, st, so, ?_⟩
        rw [em]
        intro φ1 H1 x1 s1 v r
        exact (p1 φ1 H1 x1 s1).elim
  rcases or with q | q
  · exact (pe_revS h).run pins s σ H Q I q
  · exact (pe_revL h).run pins s σ H Q I q
/-! ### dicts -/
theorem me_dnew {pos : Pos} : ME X G W (.Dict [] [] pos) (fun _ => newCell (.dct [])) := peImp pe_dnewK fun σ H Q ⟨φ, ρ, st, so, p⟩ q nq => by
  have z := newCell_of so.s p nq (.dct .nil)
  exact z.1 _ z.2
def keyD : D → Option Key
  | .int i => some (.inl i)
  | .str s => some (.inr ⟨s.toArray⟩)
  | _ => none
def Key.d : Key → D
  | .inl i => .int i
  | .inr x => .str x.cps.toList
def Key.ok : Key → Bool
  | .inl _ => true
  | .inr x => x.cps.toList.all fun c => decide (c < 0x110000)
def valD (kvs : List (Key × D)) (k : Key) : Option D := (kvs.find? fun kv => decide (kv.1 = k)).map (·.2)
def putD (kvs : List (Key × D)) (k : Key) (d : D) : List (Key × D) :=
  if (kvs.any fun kv => decide (kv.1 = k)) = true then kvs.map (fun kv => if kv.1 = k then (kv.1, d) else kv) else kvs ++ [(k, d)]
theorem key_v {d : D} {k : Key} {v : V} (h : keyD d = some k) (r : Rp X.K G φ H d v) : v = kV k := by
  cases r with
  | int => cases h; rfl
  | str _ => cases h; rfl
  | _ => cases h
theorem RpK.any {ds : List (Key × D)} {vs : List (Key × V)} {k : Key} (r : RpK X.K G φ H ds vs) : (ds.any fun kv => decide (kv.1 = k)) = vs.any fun kv => decide (kv.1 = k) := by
  induction r with
  | nil => rfl
  | cons a r ih => rw [List.any_cons, List.any_cons, ih]
theorem RpK.val {ds : List (Key × D)} {vs : List (Key × V)} {k : Key} (r : RpK X.K G φ H ds vs) : (valD ds k = none ∧ valV vs k = none) ∨ ∃ d v, valD ds k = some d ∧ valV vs k = some v ∧ Rp X.K G φ H d v := by
  induction r with
  | nil => exact .inl ⟨rfl, rfl⟩
  | @cons f d v ds vs a r ih =>
    by_cases e : f = k
    · exact .inr ⟨d, v, by simp [valD, e], by simp [valV, e], a⟩
    · have e1 : valD ((f, d) :: ds) k = valD ds k := by simp [valD, List.find?_cons, e]
      have e2 : valV ((f, v) :: vs) k = valV vs k := by simp [valV, List.find?_cons, e]
      rw [e1, e2]
      exact ih
theorem RpK.app {ds es : List (Key × D)} {vs us : List (Key × V)} (r : RpK X.K G φ H ds vs) (q : RpK X.K G φ H es us) : RpK X.K G φ H (ds ++ es) (vs ++ us) := by
  induction r with
  | nil => exact q
  | cons a r ih => exact .cons a ih
theorem RpK.len {ds : List (Key × D)} {vs : List (Key × V)} (r : RpK X.K G φ H ds vs) : ds.length = vs.length := by
  induction r with
  | nil => rfl
  | cons a r ih => rw [List.length_cons, List.length_cons, ih]
theorem RpK.map {ds : List (Key × D)} {vs : List (Key × V)} {k : Key} {d : D} {v : V} (r : RpK X.K G φ H ds vs) (q : Rp X.K G φ H d v) : RpK X.K G φ H (ds.map fun kv => if kv.1 = k then (kv.1, d) else kv) (vs.map fun kv => if kv.1 = k then (kv.1, v) else kv) := by
  induction r with
  | nil => exact .nil
  | @cons f d' v' ds vs a r ih =>
    rw [List.map_cons, List.map_cons]
    by_cases e : f = k
    · rw [if_pos (show (f, d').1 = k from e), if_pos (show (f, v').1 = k from e)]
      exact .cons q ih
    · rw [if_neg (show ¬ (f, d').1 = k from e), if_neg (show ¬ (f, v').1 = k from e)]
      exact .cons a ih
theorem RpK.put {ds : List (Key × D)} {vs : List (Key × V)} {k : Key} {d : D} {v : V} (r : RpK X.K G φ H ds vs) (q : Rp X.K G φ H d v) : RpK X.K G φ H (putD ds k d) (putK vs k v) := by
  unfold putD putK
  rw [r.any (k := k)]
  split
  · exact r.map q
  · exact r.app (.cons q .nil)
/-- the dict in a cell, to be read -/
def celK (n : Nat) : M (List (Key × D)) := fun st => match st[n]? with
  | some (.dct kvs) => .ok kvs st
  | some (.dctL kvs) => .ok kvs st
  | _ => .bad
def dDict : D → M (List (Key × D))
  | .cel n => celK n
  | _ => fail
theorem dDict_of {d : D} {v : V} {Q : List (Key × D) → Store → List Addr → Hp → Prop} (s : StOk X.K G φ H st) (r : Rp X.K G φ H d v) (p : Post X.K G W σ φ H (dDict d st) Q) :
    ∃ a kvs vs, v = .ref a ∧ Rd H a (.dK vs) ∧ RpK X.K G φ H kvs vs ∧ Q kvs st φ H := by
  cases r with
  | @cel n a ha =>
    have p : Post X.K G W σ φ H (celK n st) Q := p
    unfold celK at p
    cases e : st[n]? with
    | none => rw [e] at p; exact p.elim
    | some c =>
      rw [e] at p
      obtain ⟨o, e1, r1⟩ := s.cell n c a e ha
      cases r1 with
      | @dct kvs vs rk => exact ⟨a, kvs, vs, rfl, .inl e1, rk, postNow (W := W) (σ := σ) s p⟩
      | @dctZ kvs vs o rk => exact ⟨a, kvs, vs, rfl, .inr ⟨o, e1⟩, rk, postNow (W := W) (σ := σ) s p⟩
      | lst _ => exact p.elim
      | ins _ => exact p.elim
  | _ => exact p.elim
/-- d[k] -/
def mGet (mo mi : Env' → M D) (ρ : Env') : M D := bnd (mo ρ) fun o => bnd (mi ρ) fun i => bnd (dDict o) fun kvs => match (keyD i).bind (valD kvs) with
  | some d => ret d
  | none => fail
theorem me_get {o i : Expr} {mo mi : Env' → M D} {pos : Pos} (hu : X.A.units + 1 < cLine) (ho : ME X G W o mo) (hi : ME X G W i mi) (hs : NoSl i := by intro _ _; rfl) : ME X G W (.Subscript o i pos) (mGet mo mi) := by
  refine peImp (pe_dget hu ho hi hs) fun σ H Q ⟨φ, ρ, st, so, p⟩ => ?_
  refine tM_of so (Post.bind p) fun d1 st1 φ1 H1 v1 x1 so1 r1 p1 => ?_
  refine tM_of so1 (Post.bind p1) fun d2 st2 φ2 H2 v2 x2 so2 r2 p2 => ?_
  obtain ⟨a, kvs, vs, rfl, rd, rk, p3⟩ := dDict_of so2.s (r1.mono x2) (Post.bind p2)
  cases ek : keyD d2 with
  | none => rw [ek] at p3; exact p3.elim
  | some k =>
    rw [ek] at p3
    rcases rk.val (k := k) with ⟨e1, e2⟩ | ⟨d, v, e1, e2, r3⟩
    · rw [Option.bind_some, e1] at p3; exact p3.elim
    · rw [Option.bind_some, e1] at p3
      exact ⟨a, v, rfl, .inl ⟨vs, k, rd, key_v ek r2, e2.symm⟩, postNow (W := W) (σ := σ) so2.s p3 v r3⟩
/-- k in d -/
def mInD (neg : Bool) (mi mo : Env' → M D) (ρ : Env') : M D := bnd (mi ρ) fun i => bnd (mo ρ) fun o => bnd (dDict o) fun kvs => match keyD i with
  | some k => ret (.bl (neg ^^ (valD kvs k).isSome))
  | none => fail
theorem me_inD {o i : Expr} {mo mi : Env' → M D} {pos : Pos} (hu : X.A.units + 1 < cLine) (hi : ME X G W i mi) (ho : ME X G W o mo) (h1 : behindInMarks .In o = false := by rfl) : ME X G W (.Compare i [.In] [o] pos) (mInD false mi mo) := by
  refine peImp (pe_cmp (pc_din hu hi ho) h1) fun σ H Q ⟨φ, ρ, st, so, p⟩ => ?_
  refine tM_of so (Post.bind p) fun d1 st1 φ1 H1 v1 x1 so1 r1 p1 => ?_
  refine tM_of so1 (Post.bind p1) fun d2 st2 φ2 H2 v2 x2 so2 r2 p2 => ?_
  obtain ⟨a, kvs, vs, rfl, rd, rk, p3⟩ := dDict_of so2.s r2 (Post.bind p2)
  cases ek : keyD d1 with
  | none => rw [ek] at p3; exact p3.elim
  | some k =>
    rw [ek] at p3
    refine ⟨a, valV vs k, rfl, .inl ⟨vs, k, rd, key_v ek (r1.mono x2), rfl⟩, ?_⟩
    have := postNow (W := W) (σ := σ) so2.s p3 _ .bl
    rcases rk.val (k := k) with ⟨e1, e2⟩ | ⟨d, v, e1, e2, _⟩
    · rw [e1] at this; rw [e2]; simpa using this
    · rw [e1] at this; rw [e2]; simpa using this
theorem cd_lenD : CallD X G (fun xs H Q => ∃ a kvs, xs = [V.ref a] ∧ H a = some (.dK kvs) ∧ Q (.int kvs.length) H) (f1 fun d => match d with
    | .cel n => fun st => match st[n]? with
      | some (.dct kvs) => .ok (.int kvs.length) st
      | _ => .bad
    | _ => fail) := cd1 fun φ H st d v W σ Q s r p => by
  cases r with
  | @cel n a ha =>
    simp only at p
    cases e : st[n]? with
    | none => rw [e] at p; exact p.elim
    | some c =>
      rw [e] at p
      obtain ⟨o, e1, r1⟩ := s.cell n c a e ha
      cases r1 with
      | @dct kvs vs rk =>
        refine ⟨a, vs, rfl, e1, ?_⟩
        have := postNow (W := W) (σ := σ) s p _ .int
        rw [rk.len] at this
        exact this
      | _ => exact p.elim
  | _ => exact p.elim
end
end DL
namespace DL
open PySem PySem.Spec PyProof.Rows L2
/-! ### o[i] = v, a list or a dict -/
def setIxX (o i d : D) : M D := fun st => match o with
  | .cel n => (match st[n]? with
    | some (.dct kvs) => (match keyD i with
      | some k => (match decide (kvs.length < LIM) with
        | true => putC n (.dct (putD kvs k d)) st
        | false => .bad)
      | none => .bad)
    | _ => setIx (.cel n) i d st)
  | o => setIx o i d st
def gSubX (mo mi : Env' → M D) : GM := fun d ρ => bnd (mo ρ) fun o => bnd (mi ρ) fun i => bnd (setIxX o i d) fun _ => ret ρ
section
variable {X : Cx} {G : Gx} {W : WX} {σ : St} {φ : List Addr} {H : Hp} {st : Store}
theorem PSet.or {t t' : TSet} (h : PSet X t) (h' : PSet X t') : PSet X (fun o i v H Q => t o i v H Q ∨ t' o i v H Q) :=
  fun pins s σ H o i v ov iv u Q I r1 r2 r3 q => q.elim (h pins s σ H o i v ov iv u Q I r1 r2 r3) (h' pins s σ H o i v ov iv u Q I r1 r2 r3)
theorem setIxX_of {do' di dd : D} {o i v : V} {ρ : Env'} {Q : St → Hp → Prop} (so : SOk X.K G φ H σ ρ st) (ro : Rp X.K G φ H do' o) (ri : Rp X.K G φ H di i) (rd : Rp X.K G φ H dd v) (p : PostG X.K G φ H (bnd (setIxX do' di dd) (fun _ => ret ρ) st) Q) :
    rSetL o i v H (fun H3 => Q σ H3) ∨ rSetD o i v H (fun H3 => Q σ H3) := by
  have keep : setIxX do' di dd st = setIx do' di dd st → rSetL o i v H (fun H3 => Q σ H3) ∨ rSetD o i v H (fun H3 => Q σ H3) := fun e => by
    left
    refine setIx_of so ro ri rd ?_
    unfold bnd at p ⊢
    rw [e] at p
    exact p
  cases do' with
  | cel n =>
    cases e : st[n]? with
    | none => exact keep (by simp [setIxX, e])
    | some c =>
      cases c with
      | dct kvs =>
        right
        cases ek : keyD di with
        | none =>
          have z : setIxX (.cel n) di dd st = .bad := by simp [setIxX, e, ek]
          unfold bnd at p
          rw [z] at p
          exact p.elim
        | some k =>
          cases el : decide (kvs.length < LIM) with
          | false =>
            have z : setIxX (.cel n) di dd st = .bad := by simp [setIxX, e, ek, el]
            unfold bnd at p
            rw [z] at p
            exact p.elim
          | true =>
            have z : setIxX (.cel n) di dd st = putC n (.dct (putD kvs k dd)) st := by simp [setIxX, e, ek, el]
            cases ro with
            | @cel _ a ha =>
              obtain ⟨o, e1, r1⟩ := so.s.cell n _ a e ha
              cases r1 with
              | @dct _ vs rk =>
                have p0 := Post.okG (σ := σ) p
                rw [z] at p0
                refine ⟨a, _, rfl, ?_, putC_of so.s ha e1 (.inr (.inl ⟨_, rfl⟩)) (.dct (rk.put rd)) p0 σ (so.e.mono (ext_put ha e1 (.inr (.inl ⟨_, rfl⟩))))⟩
                rw [key_v ek ri]
                exact DPut.k e1 (by rw [← rk.len, sizeLine_eq]; have := of_decide_eq_true el; unfold LIM at this; omega)
      | lst _ => exact keep (by simp [setIxX, e])
      | dctL _ => exact keep (by simp [setIxX, e])
      | ins _ _ => exact keep (by simp [setIxX, e])
  | _ => exact keep rfl
theorem gt_subX {o i : Expr} {mo mi : Env' → M D} {pos : Pos} (hu : X.A.units + 1 < cLine) (ho : ME X G W o mo) (hi : ME X G W i mi)
    (ha : ∀ v, assign (.Subscript o i pos) X.env v = (do
      let ov ← holding [v] (eval o X.env)
      let iv ← holding [v, ov] (eval i X.env)
      standAt pos
      holding [v, ov, iv] (setItem ov iv v)
      release [v, ov, iv] []) := by intro _; rfl) : GT X G (.Subscript o i pos) (gSubX mo mi) := by
  refine pgImp (pg_sub ho hi (PSet.or set_list (set_dict hu)) ha) fun v σ H Q ⟨φ, ρ, st, d, so, r, p⟩ => ?_
  refine tM_of so (Post.w (σ := σ) (PostG.bind (σ := σ) p)) fun d1 st1 φ1 H1 v1 x1 so1 r1 p1 => ?_
  refine tM_of so1 (Post.w (σ := σ) (PostG.bind (σ := σ) p1)) fun d2 st2 φ2 H2 v2 x2 so2 r2 p2 => ?_
  exact setIxX_of so2 (r1.mono x2) r2 ((r.mono x1).mono x2) p2
end
/-! ### for k in d -/
def lockIs (n : Nat) (kvs : List (Key × D)) (st : Store) : Bool := match st[n]? with
  | some (.dctL k2) => eqK kvs k2
  | _ => false
def unl (n : Nat) (kvs : List (Key × D)) : RS → RS
  | .nx ρ st => (match lockIs n kvs st with
    | true => .nx ρ (st.set n (.dct kvs))
    | false => .bad)
  | .rt d st => (match lockIs n kvs st with
    | true => .rt d (st.set n (.dct kvs))
    | false => .bad)
  | _ => .bad
def sForK (i : Nat) (g : GM) (b : MS) : MS := fun ρ st => match ρ[i]? with
  | some (some (.cel n)) => (match st[n]? with
    | some (.dct kvs) => (match kvs.all fun kv => Key.ok kv.1 with
      | true => unl n kvs (forL (lockIs n kvs) g b (kvs.map fun kv => Key.d kv.1) ρ (st.set n (.dctL kvs)))
      | false => .bad)
    | _ => .bad)
  | _ => .bad
section
variable {K : PySem.W.Frag} {G : Gx} {φ : List Addr} {H : Hp} {a : Addr} {od : Obj} {us : List (Key × V)}
section
variable {u : HO} (h : H a = some (.frz od (.dK us)))
include h
theorem un_at {b : Addr} {o : HO} (e : H b = some o) (n : ∀ o' k', o ≠ .frz o' (.dK k')) : upd H a u b = some o := by
  rw [upd_ne (fun z => by
    rw [z, h] at e
    exact n _ _ (Option.some.inj e).symm)]
  exact e
mutual
theorem Rp.un : ∀ {d : D} {v : V}, Rp K G φ H d v → Rp K G φ (upd H a u) d v
  | _, _, .non => .non
  | _, _, .bl => .bl
  | _, _, .int => .int
  | _, _, .str h => .str h
  | _, _, .tup s r => .tup (by
      rcases s with (q | ⟨o, q⟩) | q
      · exact .inl (.inl (un_at h q (fun _ _ z => by cases z)))
      · exact .inl (.inr ⟨o, un_at h q (fun _ _ z => by cases z)⟩)
      · exact .inr q) (RpL.un r)
  | _, _, .lst q n z r => .lst (un_at h q (fun _ _ z => by cases z)) n z (RpL.un r)
  | _, _, .scr s r => .scr (s.imp (fun ⟨o, q⟩ => ⟨o, un_at h q (fun _ _ z => by cases z)⟩) id) (RpL.un r)
  | _, _, .cel q => .cel q
  | _, _, .fn q => .fn q
  | _, _, .hof q => .hof q
theorem RpL.un : ∀ {ds : List D} {vs : List V}, RpL K G φ H ds vs → RpL K G φ (upd H a u) ds vs
  | _, _, .nil => .nil
  | _, _, .cons r q => .cons (Rp.un r) (RpL.un q)
end
theorem RpF.un : ∀ {ds : List (Str × D)} {vs : List (Str × V)}, RpF K G φ H ds vs → RpF K G φ (upd H a u) ds vs
  | _, _, .nil => .nil
  | _, _, .cons r q => .cons (Rp.un h r) (RpF.un q)
theorem RpK.un : ∀ {ds : List (Key × D)} {vs : List (Key × V)}, RpK K G φ H ds vs → RpK K G φ (upd H a u) ds vs
  | _, _, .nil => .nil
  | _, _, .cons r q => .cons (Rp.un h r) (RpK.un q)
theorem CellOk.un {c : Cell} {o : HO} (q : CellOk K G φ H c o) : CellOk K G φ (upd H a u) c o := by
  cases q with
  | lst r => exact .lst (r.un h)
  | dct r => exact .dct (r.un h)
  | dctZ r => exact .dctZ (r.un h)
  | ins r => exact .ins (r.un h)
theorem tabs_un {T : List (Addr × Str)} (t : LamX.Tabs T H) : LamX.Tabs T (upd H a u) := fun p hp => by
  obtain ⟨ps, h1, h2, h3⟩ := t p hp
  refine ⟨ps, un_at h h1 (fun _ _ z => by cases z), h2, fun pos cv hc => ?_⟩
  obtain ⟨c, e1, e2⟩ := h3 pos cv hc
  exact ⟨c, e1, un_at h e2 (fun _ _ z => by unfold LamX.CodeO at z; cases z)⟩
end
end
section
variable {X : Cx} {G : Gx} {W : WX}
theorem for_of {J : It} {it : Itm} {g : GM} {b : MS} {φ1 : List Addr} {H1 : Hp} {σ : St} {ρ : Env'} {st1 : Store} {De : Ends} (hJ : ItD X.K G φ1 H1 J it) (so : SOk X.K G φ1 H1 σ ρ st1) (p1 : PostS X.K G W φ1 H1 (forL it.ck g b it.xs ρ st1) De) :
    ∃ Wk : Nat → Nat → St → Hp → Prop, (∃ m, Wk 0 m σ H1) ∧ ∀ i m σ H, Wk i m σ H → (J.stop i H ∧ De.nx σ H) ∨ (J.go i H ∧ ∃ N : St → Hp → Prop, (∀ σ' H', N σ' H' → ∃ m', m' < m ∧ Wk (i + 1) m' σ' H') ∧
      ∀ x H', J.yld i H x H' → tG X.K G g x σ H' fun σ2 H2 => tMS X.K G W b { De with nx := N, ct := N, bk := De.nx } σ2 H2) := by
  refine ⟨fun i m σ' H' => ∃ φ' ρ' st', m = it.xs.length - i ∧ i ≤ it.xs.length ∧ SOk X.K G φ' H' σ' ρ' st' ∧ Ext φ1 H1 φ' H' ∧ PostS X.K G W φ' H' (forL it.ck g b (it.xs.drop i) ρ' st') De,
    ⟨it.xs.length, φ1, ρ, st1, by simp, Nat.zero_le _, so, Ext.refl _ _, p1⟩, ?_⟩
  rintro i m σ' H' ⟨φ', ρ', st', rfl, hi', so', x', p'⟩
  by_cases hlt : i < it.xs.length
  · right
    have ed : it.xs.drop i = it.xs[i] :: it.xs.drop (i + 1) := List.drop_eq_getElem_cons hlt
    rw [ed] at p'
    unfold forL at p'
    cases c : it.ck st' with
    | false => rw [c] at p'; exact p'.elim
    | true =>
      rw [c] at p'
      obtain ⟨hgo, hy⟩ := hJ.go φ' H' st' i it.xs[i] x' so'.s c (List.getElem?_eq_getElem hlt)
      refine ⟨hgo, fun σ2 H2 => ∃ φ2 ρ2 st2, SOk X.K G φ2 H2 σ2 ρ2 st2 ∧ Ext φ1 H1 φ2 H2 ∧ PostS X.K G W φ2 H2 (forL it.ck g b (it.xs.drop (i + 1)) ρ2 st2) De, fun σ2 H2 ⟨φ2, ρ2, st2, s2, x2, p2⟩ => ⟨it.xs.length - (i + 1), by omega, φ2, ρ2, st2, rfl, hlt, s2, x2, p2⟩, fun x H2 hyl => ?_⟩
      obtain ⟨k, r⟩ := hy x H2 hyl
      have xk : Ext φ' H' φ' H2 := Ext.of_same k
      refine ⟨φ', ρ', st', it.xs[i], ⟨so'.s.same k, so'.e.mono xk⟩, r, ?_⟩
      cases q : g it.xs[i] ρ' st' with
      | exc c st => rw [q] at p'; exact p'.elim
      | bad => rw [q] at p'; exact p'.elim
      | ok ρ3 st3 =>
        rw [q] at p'
        intro φ3 H3 σ3 x3 s3
        refine ⟨φ3, ρ3, st3, s3, ?_⟩
        refine PostS.lp (PostS.ext (xk.trans x3) p') fun φ4 H4 σ4 ρ4 st4 x4 s4 p4 => ?_
        exact ⟨φ4, ρ4, st4, s4, ((x'.trans xk).trans x3).trans x4, p4⟩
  · left
    have ei : i = it.xs.length := by omega
    subst ei
    rw [List.drop_length] at p'
    unfold forL at p'
    cases c : it.ck st' with
    | false => rw [c] at p'; exact p'.elim
    | true =>
      rw [c] at p'
      exact ⟨hJ.stop φ' H' st' x' so'.s c, p' φ' H' σ' (Ext.refl _ _) so'⟩
theorem kd_rp {k : Key} {φ : List Addr} {H : Hp} (h : Key.ok k = true) : Rp X.K G φ H (Key.d k) (kV k) := by
  cases k with
  | inl i => exact .int
  | inr x =>
    have z : Rp X.K G φ H (.str x.cps.toList) (.str ⟨x.cps.toList.toArray⟩) := .str h
    rw [Array.toArray_toList] at z
    exact z
theorem RpK.keys {φ : List Addr} {H : Hp} {ds : List (Key × D)} {vs : List (Key × V)} (r : RpK X.K G φ H ds vs) : ds.map (·.1) = vs.map (·.1) := by
  induction r with
  | nil => rfl
  | cons a r ih => rw [List.map_cons, List.map_cons, ih]
theorem st_forK {tg e : Expr} {i : Nat} {body : List Stmt} {g : GM} {b : MS} {pos : Pos} (hp : PassesOwn (model X.prog X.w) X.A X.env X.xe) (hc : X.calm = true) (he : PE X e (tVar i)) (hg : GT X G tg g) (hb : SS X G W body b)
    (hs : ∀ x, foldedSetIterable e X.env x = pure x := by intro _; rfl) : ST X G W (.For tg e body [] pos) (sForK i g b) := by
  refine psImp (ps_lock (ps_for hp hc (pi_keys he) hg hb hs)) fun De σ H ⟨φ, ρ, st, so, p⟩ => ?_
  unfold sForK at p
  cases e0 : ρ[i]? with
  | none => rw [e0] at p; exact p.elim
  | some oo =>
    rw [e0] at p
    cases oo with
    | none => exact p.elim
    | some d =>
      cases d with
      | cel n =>
        simp only at p
        obtain ⟨v, hv, rv⟩ := so.e.get i _ e0
        cases rv with
        | @cel _ a ha =>
          cases e1 : st[n]? with
          | none => rw [e1] at p; exact p.elim
          | some cc =>
            rw [e1] at p
            obtain ⟨o, eo, ro⟩ := so.s.cell n cc a e1 ha
            cases ro with
            | @dct kvs us rk =>
              simp only at p
              cases ok : kvs.all fun kv => Key.ok kv.1 with
              | false => rw [ok] at p; exact p.elim
              | true =>
                rw [ok] at p
                refine ⟨a, .dK us, eo, trivial, fun od => ?_⟩
                have hl : (∃ xs, HO.dK us = .lst xs) ∨ (∃ xs, HO.dK us = .dK xs) ∨ ∃ C dx fs, HO.dK us = .ins C dx fs := .inr (.inl ⟨_, rfl⟩)
                have xl : Ext φ H φ (upd H a (.frz od (.dK us))) := ext_put ha eo hl
                have sl : StOk X.K G φ (upd H a (.frz od (.dK us))) (st.set n (.dctL kvs)) := so.s.put ha eo hl (.dctZ rk)
                have hlen : kvs.length = us.length := rk.len
                have hat : ∀ {φ2 : List Addr} {H2 : Hp}, Ext φ (upd H a (.frz od (.dK us))) φ2 H2 → H2 a = some (.frz od (.dK us)) := fun x => x.frzs _ _ _ upd_same
                have J : ItD X.K G φ (upd H a (.frz od (.dK us))) (Itk a od us) ⟨kvs.map fun kv => Key.d kv.1, lockIs n kvs⟩ := by
                  refine ⟨fun φ2 H2 st2 j d x2 s2 ck ej => ?_, fun φ2 H2 st2 x2 s2 ck => ?_⟩
                  · have hj : j < kvs.length := by
                      have := (List.getElem?_eq_some_iff.mp ej).1
                      rwa [List.length_map] at this
                    refine ⟨⟨hat x2, by omega⟩, fun x H' hy => ?_⟩
                    obtain ⟨eH, k, v, ek, ex⟩ := hy
                    subst eH ex
                    refine ⟨fun b o h => h, ?_⟩
                    have e2 : (kvs.map (·.1))[j]? = some k := by
                      rw [rk.keys, List.getElem?_map, ek]
                      rfl
                    rw [List.getElem?_map] at e2 ej
                    cases e3 : kvs[j]? with
                    | none => rw [e3] at ej; cases ej
                    | some kv =>
                      rw [e3] at ej e2
                      cases ej
                      cases e2
                      exact kd_rp (List.all_eq_true.mp ok kv (List.mem_of_getElem? e3))
                  · exact ⟨hat x2, by rw [List.length_map]; omega⟩
                refine ⟨_, hv, a, od, rfl, .inl ⟨us, upd_same, ?_⟩⟩
                refine for_of (W := W) J ⟨sl, so.e.mono xl⟩ (b := b) (g := g) ?_
                -- the ends
                have unX : ∀ {φ2 : List Addr} {H2 : Hp}, Ext φ (upd H a (.frz od (.dK us))) φ2 H2 → Ext φ H φ2 (upd H2 a (.dK us)) := fun {φ2 H2} x2 => by
                  have am : a ∈ φ := List.mem_of_getElem? ha
                  have ne : ∀ b o, H b = some o → (∀ k', o ≠ .dK k') → b ≠ a := fun b o h n z => by
                    rw [z, eo] at h
                    exact n _ (Option.some.inj h).symm
                  obtain ⟨ψ, ep, fp⟩ := x2.pre
                  refine ⟨⟨ψ, ep, fun c hc2 => ?_⟩, fun c o h nm nt => ?_, fun c xs h => ?_, fun c o u h => ?_, fun c h => ?_⟩
                  · have := fp c hc2
                    by_cases hca : c = a
                    · subst hca
                      rw [upd_same] at this
                      cases this
                    · rw [upd_ne hca] at this
                      exact this
                  · have hca : c ≠ a := fun z => nm (z ▸ am)
                    rw [upd_ne hca]
                    exact x2.keep c o (by rw [upd_ne hca]; exact h) nm nt
                  · have hca := ne c _ h (fun _ z => by cases z)
                    rw [upd_ne hca]
                    exact x2.tups c xs (by rw [upd_ne hca]; exact h)
                  · have hca := ne c _ h (fun _ z => by cases z)
                    rw [upd_ne hca]
                    exact x2.frzs c o u (by rw [upd_ne hca]; exact h)
                  · by_cases hca : c = a
                    · subst hca
                      rw [upd_same]
                      simp
                    · rw [upd_ne hca]
                      exact x2.there c (by rw [upd_ne hca]; exact h)
                have unS : ∀ {φ2 : List Addr} {H2 : Hp} {st2 : Store}, Ext φ (upd H a (.frz od (.dK us))) φ2 H2 → StOk X.K G φ2 H2 st2 → lockIs n kvs st2 = true → StOk X.K G φ2 (upd H2 a (.dK us)) (st2.set n (.dct kvs)) := fun {φ2 H2 st2} x2 s2 lk => by
                  have h2 := hat x2
                  have x3 := unX x2
                  have a2 : φ2[n]? = some a := x2.at ha
                  have hn : n < st2.length := by rw [← s2.len]; exact (List.getElem?_eq_some_iff.mp a2).1
                  refine ⟨by rw [List.length_set]; exact s2.len, s2.nd, fun j c' bb g1 g2 => ?_, tabs_un h2 s2.tabs, so.s.anc.trans x3, fun bb hb => x3.there bb (so.s.fx bb hb), s2.fd⟩
                  by_cases hj : n = j
                  · subst hj
                    rw [a2] at g2
                    cases g2
                    rw [List.getElem?_set_self hn] at g1
                    cases g1
                    exact ⟨_, upd_same, .dct (rk.mono x3)⟩
                  · rw [List.getElem?_set_ne hj] at g1
                    obtain ⟨u, k1, k2⟩ := s2.cell j c' bb g1 g2
                    have hne : bb ≠ a := fun q => hj (nd_ix s2.nd a2 (by rw [← q]; exact g2))
                    exact ⟨u, by rw [upd_ne hne]; exact k1, k2.un h2⟩
                cases q : forL (lockIs n kvs) g b (kvs.map fun kv => Key.d kv.1) ρ (st.set n (.dctL kvs)) with
                | nx ρ2 st2 =>
                  rw [q] at p
                  unfold unl at p
                  intro φ2 H2 σ2 x2 so2
                  cases lk : lockIs n kvs st2 with
                  | false => simp only [lk] at p; exact p.elim
                  | true =>
                    simp only [lk] at p
                    have h2 := hat x2
                    exact ⟨h2, p φ2 _ σ2 (unX x2) ⟨unS x2 so2.s lk, ⟨so2.e.len, fun j d e => by
                      obtain ⟨w, w1, w2⟩ := so2.e.get j d e
                      exact ⟨w, w1, w2.un h2⟩⟩⟩⟩
                | rt d st2 =>
                  rw [q] at p
                  unfold unl at p
                  intro φ2 H2 v2 x2 s2 r2
                  cases lk : lockIs n kvs st2 with
                  | false => simp only [lk] at p; exact p.elim
                  | true =>
                    simp only [lk] at p
                    exact ⟨hat x2, p φ2 _ v2 (unX x2) (unS x2 s2 lk) (r2.un (hat x2))⟩
                | bk ρ2 st2 => rw [q] at p; exact p.elim
                | ct ρ2 st2 => rw [q] at p; exact p.elim
                | exc c ρ2 st2 => rw [q] at p; exact p.elim
                | bad => rw [q] at p; exact p.elim
            | lst _ => exact p.elim
            | dctZ _ => exact p.elim
            | ins _ => exact p.elim
      | _ => exact p.elim
end
end DL
namespace DL
open PySem PySem.Spec PyProof.Rows L2
/-! ### a def handed to a def -/
structure HofB (P : Program) (w : World) (K : PySem.W.Frag) (mg : Str → Option Value) (base : Heap) (k : Nat) (G : Gx) (n : Nat) (m : List D → M D) : Prop where
  fn : ∀ a, G.hf = some a → ∀ (φ : List Addr) (H : Hp) (st : Store) (h : Heap), StOk K G φ H st → HOk P w H h → K.In h → PySem.W.FnAt a h
  run : ∀ a, G.hf = some a → ∀ (A : Around) (outer : List Env) (s : Shared) (H : Hp) (us : List Value) (vs : List V) (Q : VK) (E : XK), Room k A → Env0 P w K mg base A outer s H → Vals vs us → spM K G n m vs H Q E →
    codeAny (model P w) A (.call (.ref a) ⟨us, []⟩) (CR (L2N.CX P w) outer P w H s Q E) s
theorem hof_def {P : Program} {w : World} {K : PySem.W.Frag} {mg : Str → Option Value} {base : Heap} {k n : Nat} {G : Gx} {m : List D → M D} {x : Str} {st : Stmt} (d : ∃ fd, L2.Fun K x x st (He.ga K x) fd) (c : Cal P w K mg base k x (spM K G n m)) (h : G.hf = some (He.ga K x)) : HofB P w K mg base k G n m where
  fn := fun a ha φ H st h' _ _ kin => by
    rw [h] at ha
    cases ha
    obtain ⟨fd, F⟩ := d
    obtain ⟨oc, od, kV, doc, pm, an, cdv, ct, osl, rfl, lk, _⟩ := F.ex
    exact ⟨oc, od, _, osl, kin _ _ lk⟩
  run := fun a ha A outer s H us vs Q E hr e0 r hs => by
    rw [h] at ha
    cases ha
    obtain ⟨fd, ps, F, b, kp, mx⟩ := c
    have kx : K.In s.heap := e0.mod.kin.keeps fun b o e => (e0.bs b o e).1
    have hl : (us ++ []).length = ps.length := by
      rw [List.append_nil, ← r.length]
      exact F.len _ _ _ _ hs
    have b1 := b s us kx hl
    rw [List.append_nil] at b1
    exact F.run A outer s H ⟨us, []⟩ us vs Q E hr e0 b1 r hs
section
variable {X : Cx} {G : Gx} {W : WX} {j k n i : Nat} {m : List D → M D} {x : Str} {p pos : Pos}
/-- call(e), call the def handed -/
def mHof (i : Nat) (m : List D → M D) (ms : Env' → M (List D)) (ρ : Env') : M D := match ρ[i]? with
  | some (some D.hof) => mCall 1 m ms ρ
  | _ => fail
theorem me_hof {e : Expr} {ms : Env' → M (List D)} (hB : HofB X.prog X.w X.K X.mg X.base k G 1 m) (hr : Room j X.A) (hk : k ≤ j) (tk : L2N.Takes X W) (ha : MA X G W [e] ms) (hN : X.N[i]? = some x := by rfl) (hv : Vis X.env.scope x := by first | exact Or.inl rfl | exact Or.inr (Or.inl rfl) | exact Or.inr (Or.inr rfl))
    (hd : (x == ("__debug__" : Str)) = false := by decide) (hcd : (x == ("__classdict__" : Str)) = false := by decide) (he : starEach [e] X.env = (false, eval e X.env) :: starEach [] X.env := by rfl) (hpl : (backTo pos (starEach [] X.env)).any (·.1) = false := by rfl) :
    ME X G W (.Call (.Name x p) [e] [] pos) (mHof i m ms) := by
  refine ⟨fun pins s σ H Q I ⟨φ, ρ, st, so, pp⟩ => ?_⟩
  unfold mHof at pp
  cases e0 : ρ[i]? with
  | none => rw [e0] at pp; exact pp.elim
  | some od =>
    cases od with
    | none => rw [e0] at pp; exact pp.elim
    | some d =>
      cases d with
      | hof =>
        rw [e0] at pp
        obtain ⟨v0, hs0, r0⟩ := so.e.get i .hof e0
        cases r0 with
        | @hof f hf =>
          refine wpAny_Call_Name_kw (thn ((pe_var (pos := p) (i := i) hN hv hd hcd).run pins s σ H (fun v H1 => v = .ref f ∧ H1 = H) I ⟨.ref f, hs0, rfl, rfl⟩) fun u s1 ⟨v, H1, I1, r1, q1, q2⟩ => ?_)
          subst q1 q2
          obtain rfl : u = Value.ref f := r1
          have pa : tML X.K G W ms σ H1 (fun vs H2 => ∃ φ2 st2 ds, StOk X.K G φ2 H2 st2 ∧ RpL X.K G φ2 H2 ds vs ∧ ds.length = 1 ∧ Post X.K G W σ φ2 H2 (m ds st2) fun d _ φ' H' => ∀ v, Rp X.K G φ' H' d v → Q v H') := by
            refine ⟨φ, ρ, st, so, ?_⟩
            refine (Post.bind pp).imp fun ds st2 φ2 H2 x2 s2 p2 vs r2 => ?_
            obtain ⟨c, p3⟩ := Post.chk p2
            exact ⟨φ2, st2, ds, s2, r2, of_decide_eq_true c, p3⟩
          refine PySem.W.callWith_F (first := []) (hB.fn f hf φ H1 st _ so.s I1.hok I1.kIn) (thn (ha.run pos pins s1 σ H1 _ I1 pa) fun us s2 ⟨vs, H2, I2, r, φ2, st2, ds, s2', rl, hl, p3⟩ => ⟨hB.fn f hf φ2 H2 st2 _ s2' I2.hok I2.kIn, ?_⟩) he hpl
          show wpAny _ _ (call (.ref f) us) _ _ _
          refine wpAny_call (codeAny_mono (hB.run f hf X.A X.stack s2 H2 us vs Q (WE W σ) (hr.mono hk) I2.env0 r ⟨φ2, ds, st2, by rw [← rl.length]; exact hl, s2', rl, post_sp p3⟩) fun rr s' hq => ?_)
          cases rr with
          | error e => exact L2N.passAt tk σ pins H2 s2 e s' I2 hq
          | ok fl =>
            cases fl with
            | ret u => exact I2.after hq
            | next => exact False.elim hq
            | brk => exact False.elim hq
            | cont => exact False.elim hq
      | _ => rw [e0] at pp; exact pp.elim
/-- g(f, ..), f a def of the module (or several) -/
def mHcall (n : Nat) (mt : Nat → Option (List D → M D)) (mg : (List D → M D) → List D → M D) (ms : Env' → M (List D)) (ρ : Env') : M D := bnd (ms ρ) fun ds => match ds with
  | D.fn k :: rest => (match mt k with
    | some mf => chk (decide (rest.length + 1 = n) && D.nhL rest) (hfr (mg mf (D.hof :: rest)))
    | none => fail)
  | _ => fail
theorem me_hcall {e : Expr} {es : List Expr} {ms : Env' → M (List D)} {kB : Nat} {mt : Nat → Option (List D → M D)} {mgd : (List D → M D) → List D → M D} (hm : X.mg x = some (.ref (He.ga X.K x))) (kp : PySem.W.keepIn X.K (.ref (He.ga X.K x)) = true)
    (c : ∀ (G' : Gx) (mf : List D → M D), G'.tb = G.tb → (∀ fx, HofB X.prog X.w X.K X.mg X.base kB (G'.fl fx) 1 mf) → Cal X.prog X.w X.K X.mg X.base k x (spM X.K G' n (mgd mf)))
    (hB : ∀ (G' : Gx) (l : Nat) (a : Addr) (mf : List D → M D), mt l = some mf → G.tb.fns[l]? = some a → G'.tb = G.tb → G'.hf = some a → HofB X.prog X.w X.K X.mg X.base kB G' 1 mf)
    (hr : Room j X.A) (hk : k ≤ j) (tk : L2N.Takes X W) (ha : MA X G W (e :: es) ms) (hg : Gl X x := by rfl) (hdb : (x == ("__debug__" : Str)) = false := by decide)
    (he : starEach (e :: es) X.env = (false, eval e X.env) :: starEach es X.env := by rfl) (hpl : (backTo pos (starEach es X.env)).any (·.1) = false := by rfl) : ME X G W (.Call (.Name x p) (e :: es) [] pos) (mHcall n mt mgd ms) := by
  refine ⟨fun pins s σ H Q I ⟨φ, ρ, st, so, pp⟩ => ?_⟩
  refine wpAny_Call_Name_kw (ld_glob I hg hm ?_ hdb)
  have pa : tML X.K G W ms σ H (fun vs H2 => ∃ φ2 st2 ds, StOk X.K G φ2 H2 st2 ∧ RpL X.K G φ2 H2 ds vs ∧ Post X.K G W σ φ2 H2 ((match ds with
      | D.fn k :: rest => (match mt k with
        | some mf => chk (decide (rest.length + 1 = n) && D.nhL rest) (hfr (mgd mf (D.hof :: rest)))
        | none => fail)
      | _ => fail) st2) fun d _ φ' H' => ∀ v, Rp X.K G φ' H' d v → Q v H') := ⟨φ, ρ, st, so, (Post.bind pp).imp fun ds st2 φ2 H2 x2 s2 p2 vs r2 => ⟨φ2, st2, ds, s2, r2, p2⟩⟩
  refine PySem.W.callWith_K (h₀ := X.base) I.ok.mod.kin kp (thn (ha.run pos pins s σ H _ I pa) fun us s2 ⟨vs, H2, I2, r, φ2, st2, ds, s2', rl, p3⟩ => ⟨I2.kIn, ?_⟩) he hpl
  cases rl with
  | nil => exact p3.elim
  | @cons d v ds vs r1 rr =>
    cases r1 with
    | @fn l a hl =>
      simp only at p3
      cases em : mt l with
      | none => rw [em] at p3; exact p3.elim
      | some mf =>
        rw [em] at p3
        obtain ⟨cc, p4⟩ := Post.chk p3
        obtain ⟨c1, c2⟩ := Bool.and_eq_true_iff.mp cc
        have anc : Ext φ2 H2 φ2 H2 := Ext.refl _ _
        obtain ⟨nh, pb⟩ := Post.sw (G := G.hand a φ2 H2) (G' := G) rfl rfl s2'.anc p4
        have s3 : StOk X.K (G.hand a φ2 H2) φ2 H2 st2 := s2'.sw (G := G) (G' := G.hand a φ2 H2) rfl rfl nh anc
        obtain ⟨fd, ps, F, b, _, _⟩ := c (G.hand a φ2 H2) mf rfl (fun fx => hB ((G.hand a φ2 H2).fl fx) l a mf em hl rfl rfl)
        have sp : spM X.K (G.hand a φ2 H2) n (mgd mf) (V.ref a :: vs) H2 Q (WE W σ) := by
          refine ⟨φ2, .hof :: ds, st2, ?_, s3, .cons (.hof rfl) (rr.sw (G := G) (G' := G.hand a φ2 H2) rfl rfl c2), post_sp pb⟩
          rw [List.length_cons, ← rr.length]
          exact of_decide_eq_true c1
        have hl2 : (us ++ []).length = ps.length := by
          rw [List.append_nil, ← r.length]
          exact F.len _ _ _ _ sp
        have b1 := b s2 us I2.kIn hl2
        rw [List.append_nil] at b1
        refine wpAny_call (codeAny_mono (F.run X.A X.stack s2 H2 ⟨us, []⟩ us _ Q (WE W σ) (hr.mono hk) I2.env0 b1 r sp) fun rr s' hq => ?_)
        cases rr with
        | error e => exact L2N.passAt tk σ pins H2 s2 e s' I2 hq
        | ok fl =>
          cases fl with
          | ret u => exact I2.after hq
          | next => exact False.elim hq
          | brk => exact False.elim hq
          | cont => exact False.elim hq
    | _ => exact p3.elim
end
end DL
namespace DL
open PySem PySem.Spec PyProof.Rows L2
theorem hu1 {k : Nat} {A : Around} (hr : Room k A) : A.units + 1 < cLine := by have := hr.un; omega
theorem HofB.mono {P : Program} {w : World} {K : PySem.W.Frag} {mg : Str → Option Value} {base : Heap} {k j n : Nat} {G : Gx} {m : List D → M D} (h : HofB P w K mg base k G n m) (hk : k ≤ j) : HofB P w K mg base j G n m :=
  ⟨h.fn, fun a ha A outer s H us vs Q E hr => h.run a ha A outer s H us vs Q E (hr.mono hk)⟩
/-- a def whose code object is known -/
theorem ok_defC {P : Program} {w : World} {K : PySem.W.Frag} {mg : Str → Option Value} {base : Heap} {x : Str} {st : Stmt} {fd : FuncData} {N ps : List Str} {k n : Nat} {G : Gx} {b : MS} {fr : Bool} {len : Nat} (F : L2.Fun K x x st (He.ga K x) fd) (S : FnScope N ps (defScope st)) (hn : ps.length = n) (hN : N.length = len)
    (hbody : ∀ (cdv : Value) (A : Around) (outer : List Env) (s : Shared) (H : Hp) (E : XK), cdv = .ref (He.codeOf K (x, none)) → Room k (A.deeper (envOfC x (defScope st) s.heap.objs.size (He.ga K x) cdv)) →
      SS (cxOf (L2N.CX P w) P w K mg base N x (defScope st) (He.ga K x) cdv A outer s H E) G (WofE E) (defBody st) b) : FnOk P w K mg base (L2N.CX P w) (k + 1) (He.ga K x) fd ps (spM K G n (runB fr len n b)) := by
  obtain ⟨oc, od, kV, doc, pm, an, cdv, ct, osl, rfl, lk, hcd⟩ := F.ex
  obtain ⟨c, rfl⟩ := He.codeIn_ref hcd
  have hc : He.codeOf K (x, none) = c := He.codeOf_eq (p := (x, none)) lk rfl
  refine fn_of lk hcd S (fun vs H Q E ⟨_, _, _, h, _⟩ => h.trans hn.symm) fun A outer s H vs Q E hr hsp => ?_
  obtain ⟨φ, ds, st0, hl, so, rl, p⟩ := hsp
  refine ⟨_, hbody (.ref c) A outer s H E (by rw [hc]) hr, φ, _, st0, ⟨so, env_start rl hl⟩, ?_⟩
  rw [hN]
  exact runB_post so p
theorem tab_hu {T : List (Addr × Str)} (nd : (T.map (·.1)).Nodup) {P : Addr} {q : Str} (h : (P, q) ∈ T) : ∀ y ∈ T, y.1 = P → y.2 = q := by
  intro y hy e
  induction T with
  | nil => cases h
  | cons t r ih =>
    rw [List.map_cons, List.nodup_cons] at nd
    rcases List.mem_cons.mp h with h1 | h1 <;> rcases List.mem_cons.mp hy with h2 | h2
    · rw [h2, ← h1]
    · exact absurd (List.mem_map.mpr ⟨y, h2, by rw [e, ← h1]⟩) nd.1
    · exact absurd (List.mem_map.mpr ⟨_, h1, by show P = t.1; rw [← e, h2]⟩) nd.1
    · exact ih nd.2 h1 h2
def dLenD : D → M D
  | .cel n => fun st => match st[n]? with
    | some (.dct kvs) => .ok (.int kvs.length) st
    | _ => .bad
  | _ => fail
theorem cd_lenDict {X : Cx} {G : Gx} : CallD X G (fun xs H Q => ∃ a kvs, xs = [V.ref a] ∧ H a = some (.dK kvs) ∧ Q (.int kvs.length) H) (f1 dLenD) := cd_lenD
/-- what an own error's class must show, looked at -/
def excCB (K : PySem.W.Frag) (D : Addr) : Bool :=
  decide (PySem.W.findIn K (.ref D) "__getattribute__" = some (some (.builtin "BaseException.__getattribute__"))) && (decide (PySem.W.findIn K (.ref D) "__getattr__" = some none) && (decide (PySem.W.subIn K (.ref D) (.type "BaseException") = some true) && (PySem.W.hasDictIn K D &&
  (decide (PySem.W.findIn K (.ref D) "__class__" = some (some (.builtin "object.__class__"))) && (decide (PySem.W.specialIn K (.builtin "object.__class__") "__get__" = some (some (.builtin "getset_descriptor.__get__"))) && (decide (PySem.W.takesIn K (.builtin "object.__class__") = some true) && decide (PySem.W.mroIn K D (.type "object") = some true)))))))
theorem excC_of {K : PySem.W.Frag} {D : Addr} (h : excCB K D = true) : ExcC K D := by
  unfold excCB at h
  simp only [Bool.and_eq_true, decide_eq_true_eq] at h
  obtain ⟨h1, h2, h3, h4, h5, h6, h7, h8⟩ := h
  exact ⟨h1, h2, h3, h4, h5, h6, h7, h8⟩
end DL
namespace DL
open PySem PySem.Spec PyProof.Rows L2
section
variable {X : Cx} {G : Gx} {W : WX}
theorem mt_pc {a b : Expr} {op : CmpOp} {m : Env' → M D} {t : TE} {pos : Pos} (h : PC X op a b t) (hi : ∀ σ H Q, tM X.K G W m σ H Q → t σ H Q) (h1 : behindInMarks op b = false) : MT X G W (.Compare a [op] [b] pos) (mB m) := by
  refine ptImp (pt_cmp h h1) fun σ H Q ⟨φ, ρ, st, so, p⟩ => hi σ H _ ⟨φ, ρ, st, so, ?_⟩
  exact (Post.bind p).imp fun d st1 φ1 H1 x1 s1 p1 v1 r1 => asB_of s1 r1 p1
theorem isN_of {m : Env' → M D} (σ : St) (H : Hp) (Q : VK) (h : tM X.K G W (m1 dIsN m) σ H Q) : tIsN (tM X.K G W m) σ H Q := by
  obtain ⟨φ, ρ, st, so, p⟩ := h
  refine tM_of so (Post.bind p) fun d1 st1 φ1 H1 v1 x1 so1 r1 p1 => ?_
  rw [(isN_v r1).1] at p1
  exact postNow (W := W) (σ := σ) so1.s p1 _ .bl
theorem notN_of {m : Env' → M D} (σ : St) (H : Hp) (Q : VK) (h : tM X.K G W (m1 dNotN m) σ H Q) : tNotN (tM X.K G W m) σ H Q := by
  obtain ⟨φ, ρ, st, so, p⟩ := h
  refine tM_of so (Post.bind p) fun d1 st1 φ1 H1 v1 x1 so1 r1 p1 => ?_
  rw [(isN_v r1).2] at p1
  exact postNow (W := W) (σ := σ) so1.s p1 _ .bl
theorem mt_isN {a : Expr} {m : Env' → M D} {j : Nat} {pos pos' : Pos} (h : ME X G W a m) : MT X G W (.Compare a [.Is] [.Constant .none j pos'] pos) (mB (m1 dIsN m)) := mt_pc (pc_isN h) isN_of (nomark _)
theorem mt_notN {a : Expr} {m : Env' → M D} {j : Nat} {pos pos' : Pos} (h : ME X G W a m) : MT X G W (.Compare a [.IsNot] [.Constant .none j pos'] pos) (mB (m1 dNotN m)) := mt_pc (pc_notN h) notN_of (nomark _)
theorem inD_of {mi mo : Env' → M D} (σ : St) (H : Hp) (Q : VK) (h : tM X.K G W (mInD false mi mo) σ H Q) : tDIn (tM X.K G W mi) (tM X.K G W mo) σ H Q := by
  obtain ⟨φ, ρ, st, so, p⟩ := h
  refine tM_of so (Post.bind p) fun d1 st1 φ1 H1 v1 x1 so1 r1 p1 => ?_
  refine tM_of so1 (Post.bind p1) fun d2 st2 φ2 H2 v2 x2 so2 r2 p2 => ?_
  obtain ⟨a, kvs, vs, rfl, rd, rk, p3⟩ := dDict_of so2.s r2 (Post.bind p2)
  cases ek : keyD d1 with
  | none => rw [ek] at p3; exact p3.elim
  | some k =>
    rw [ek] at p3
    refine ⟨a, valV vs k, rfl, .inl ⟨vs, k, rd, key_v ek (r1.mono x2), rfl⟩, ?_⟩
    have := postNow (W := W) (σ := σ) so2.s p3 _ .bl
    rcases rk.val (k := k) with ⟨e1, e2⟩ | ⟨d, v, e1, e2, _⟩
    · rw [e1] at this; rw [e2]; simpa using this
    · rw [e1] at this; rw [e2]; simpa using this
theorem mt_inD {o i : Expr} {mo mi : Env' → M D} {pos : Pos} (hu : X.A.units + 1 < cLine) (hi : ME X G W i mi) (ho : ME X G W o mo) (h1 : behindInMarks .In o = false := by rfl) : MT X G W (.Compare i [.In] [o] pos) (mB (mInD false mi mo)) := mt_pc (pc_din hu hi ho) inD_of h1
end
end DL
namespace K07
open PySem PySem.Spec PyProof.Rows L2 DL
abbrev topS (i : Nat) : Stmt := PySem.Challenge.pw_splituses_k07_texts.main.body.getD i (.Pass ⟨0, 0, 0, 0⟩)
def tbK (K : PySem.W.Frag) : Tb := ⟨[He.ga K "is_good", He.ga K "need_signs", He.ga K "text_of", He.ga K "read_in", He.ga K "signs_text", He.ga K "read_signs", He.ga K "_law_vat", He.ga K "_law_under", He.ga K "_law_some", He.ga K "_law_every", He.ga K "_law_signs", He.ga K "_law_names", He.ga K "_law_error", He.ga K "_law_told", He.ga K "_law_all_refused", He.ga K "_law_bad_signs", He.ga K "_law_text", He.ga K "law"], fun c => ([He.ga K "InvalidSigns", He.ga K "InvalidChance", He.ga K "InvalidNumber", He.ga K "InvalidCode", He.ga K "InvalidData", He.ga K "InvalidSeen", He.ga K "InvalidLost", He.ga K "InvalidTable", He.ga K "InvalidFacts", He.ga K "InvalidShare", He.ga K "InvalidPlace", He.ga K "InvalidSign", He.ga K "InvalidText", He.ga K "Misfit", He.ga K "Unlike", He.ga K "NothingToUndo"] : List Addr).getD c 0, fun _ => 0, [((He.cT K ("_law_all_refused", none)).2, ("_law_all_refused" : Str) ++ ".<locals>." ++ "<lambda>"), ((He.cT K ("law", none)).2, ("law" : Str) ++ ".<locals>." ++ "<lambda>")]⟩
structure Fz (K : PySem.W.Frag) (mg : Str → Option Value) (base : Heap) : Prop where
  n_ValueError : mg "ValueError" = none
  n_abs : mg "abs" = none
  n_all : mg "all" = none
  n_int : mg "int" = none
  n_isinstance : mg "isinstance" = none
  n_len : mg "len" = none
  n_max : mg "max" = none
  n_min : mg "min" = none
  n_range : mg "range" = none
  n_str : mg "str" = none
  n_zip : mg "zip" = none
  c_MOST_SIGNS : ∃ t, mg "MOST_SIGNS" = some (.int 5 t)
  m_is_good : mg "is_good" = some (.ref (He.ga K "is_good"))
  k_is_good : PySem.W.keepIn K (.ref (He.ga K "is_good")) = true
  d_is_good : ∃ fd, L2.Fun K "is_good" "is_good" (topS 21) (He.ga K "is_good") fd
  m_need_signs : mg "need_signs" = some (.ref (He.ga K "need_signs"))
  k_need_signs : PySem.W.keepIn K (.ref (He.ga K "need_signs")) = true
  d_need_signs : ∃ fd, L2.Fun K "need_signs" "need_signs" (topS 22) (He.ga K "need_signs") fd
  m_text_of : mg "text_of" = some (.ref (He.ga K "text_of"))
  k_text_of : PySem.W.keepIn K (.ref (He.ga K "text_of")) = true
  d_text_of : ∃ fd, L2.Fun K "text_of" "text_of" (topS 24) (He.ga K "text_of") fd
  m_read_in : mg "read_in" = some (.ref (He.ga K "read_in"))
  k_read_in : PySem.W.keepIn K (.ref (He.ga K "read_in")) = true
  d_read_in : ∃ fd, L2.Fun K "read_in" "read_in" (topS 25) (He.ga K "read_in") fd
  m_signs_text : mg "signs_text" = some (.ref (He.ga K "signs_text"))
  k_signs_text : PySem.W.keepIn K (.ref (He.ga K "signs_text")) = true
  d_signs_text : ∃ fd, L2.Fun K "signs_text" "signs_text" (topS 26) (He.ga K "signs_text") fd
  m_read_signs : mg "read_signs" = some (.ref (He.ga K "read_signs"))
  k_read_signs : PySem.W.keepIn K (.ref (He.ga K "read_signs")) = true
  d_read_signs : ∃ fd, L2.Fun K "read_signs" "read_signs" (topS 27) (He.ga K "read_signs") fd
  m__law_vat : mg "_law_vat" = some (.ref (He.ga K "_law_vat"))
  k__law_vat : PySem.W.keepIn K (.ref (He.ga K "_law_vat")) = true
  d__law_vat : ∃ fd, L2.Fun K "_law_vat" "_law_vat" (topS 29) (He.ga K "_law_vat") fd
  m__law_under : mg "_law_under" = some (.ref (He.ga K "_law_under"))
  k__law_under : PySem.W.keepIn K (.ref (He.ga K "_law_under")) = true
  d__law_under : ∃ fd, L2.Fun K "_law_under" "_law_under" (topS 30) (He.ga K "_law_under") fd
  m__law_some : mg "_law_some" = some (.ref (He.ga K "_law_some"))
  k__law_some : PySem.W.keepIn K (.ref (He.ga K "_law_some")) = true
  d__law_some : ∃ fd, L2.Fun K "_law_some" "_law_some" (topS 31) (He.ga K "_law_some") fd
  m__law_every : mg "_law_every" = some (.ref (He.ga K "_law_every"))
  k__law_every : PySem.W.keepIn K (.ref (He.ga K "_law_every")) = true
  d__law_every : ∃ fd, L2.Fun K "_law_every" "_law_every" (topS 32) (He.ga K "_law_every") fd
  m__law_signs : mg "_law_signs" = some (.ref (He.ga K "_law_signs"))
  k__law_signs : PySem.W.keepIn K (.ref (He.ga K "_law_signs")) = true
  d__law_signs : ∃ fd, L2.Fun K "_law_signs" "_law_signs" (topS 33) (He.ga K "_law_signs") fd
  m__law_names : mg "_law_names" = some (.ref (He.ga K "_law_names"))
  k__law_names : PySem.W.keepIn K (.ref (He.ga K "_law_names")) = true
  d__law_names : ∃ fd, L2.Fun K "_law_names" "_law_names" (topS 34) (He.ga K "_law_names") fd
  m__law_error : mg "_law_error" = some (.ref (He.ga K "_law_error"))
  k__law_error : PySem.W.keepIn K (.ref (He.ga K "_law_error")) = true
  d__law_error : ∃ fd, L2.Fun K "_law_error" "_law_error" (topS 35) (He.ga K "_law_error") fd
  m__law_told : mg "_law_told" = some (.ref (He.ga K "_law_told"))
  k__law_told : PySem.W.keepIn K (.ref (He.ga K "_law_told")) = true
  d__law_told : ∃ fd, L2.Fun K "_law_told" "_law_told" (topS 36) (He.ga K "_law_told") fd
  m__law_all_refused : mg "_law_all_refused" = some (.ref (He.ga K "_law_all_refused"))
  k__law_all_refused : PySem.W.keepIn K (.ref (He.ga K "_law_all_refused")) = true
  d__law_all_refused : ∃ fd, L2.Fun K "_law_all_refused" "_law_all_refused" (topS 37) (He.ga K "_law_all_refused") fd
  m__law_bad_signs : mg "_law_bad_signs" = some (.ref (He.ga K "_law_bad_signs"))
  k__law_bad_signs : PySem.W.keepIn K (.ref (He.ga K "_law_bad_signs")) = true
  d__law_bad_signs : ∃ fd, L2.Fun K "_law_bad_signs" "_law_bad_signs" (topS 38) (He.ga K "_law_bad_signs") fd
  m__law_text : mg "_law_text" = some (.ref (He.ga K "_law_text"))
  k__law_text : PySem.W.keepIn K (.ref (He.ga K "_law_text")) = true
  d__law_text : ∃ fd, L2.Fun K "_law_text" "_law_text" (topS 39) (He.ga K "_law_text") fd
  m_law : mg "law" = some (.ref (He.ga K "law"))
  k_law : PySem.W.keepIn K (.ref (He.ga K "law")) = true
  d_law : ∃ fd, L2.Fun K "law" "law" (topS 40) (He.ga K "law") fd
  x_InvalidSigns : PySem.W.excIn K (He.ga K "InvalidSigns") He.veBase "ValueError.__new__" = true ∧ mg "InvalidSigns" = some (.ref (He.ga K "InvalidSigns")) ∧ PySem.W.keepIn K (.ref (He.ga K "InvalidSigns")) = true ∧ (PySem.W.subIn K (.ref (He.ga K "InvalidSigns")) (.type "BaseException") = some true ∧ PySem.W.typeIn K (.ref (He.ga K "InvalidSigns")) = some (.type "type"))
  x_InvalidChance : PySem.W.excIn K (He.ga K "InvalidChance") He.veBase "ValueError.__new__" = true ∧ mg "InvalidChance" = some (.ref (He.ga K "InvalidChance")) ∧ PySem.W.keepIn K (.ref (He.ga K "InvalidChance")) = true ∧ (PySem.W.subIn K (.ref (He.ga K "InvalidChance")) (.type "BaseException") = some true ∧ PySem.W.typeIn K (.ref (He.ga K "InvalidChance")) = some (.type "type"))
  x_InvalidNumber : PySem.W.excIn K (He.ga K "InvalidNumber") He.veBase "ValueError.__new__" = true ∧ mg "InvalidNumber" = some (.ref (He.ga K "InvalidNumber")) ∧ PySem.W.keepIn K (.ref (He.ga K "InvalidNumber")) = true ∧ (PySem.W.subIn K (.ref (He.ga K "InvalidNumber")) (.type "BaseException") = some true ∧ PySem.W.typeIn K (.ref (He.ga K "InvalidNumber")) = some (.type "type"))
  x_InvalidCode : PySem.W.excIn K (He.ga K "InvalidCode") He.veBase "ValueError.__new__" = true ∧ mg "InvalidCode" = some (.ref (He.ga K "InvalidCode")) ∧ PySem.W.keepIn K (.ref (He.ga K "InvalidCode")) = true ∧ (PySem.W.subIn K (.ref (He.ga K "InvalidCode")) (.type "BaseException") = some true ∧ PySem.W.typeIn K (.ref (He.ga K "InvalidCode")) = some (.type "type"))
  x_InvalidData : PySem.W.excIn K (He.ga K "InvalidData") He.veBase "ValueError.__new__" = true ∧ mg "InvalidData" = some (.ref (He.ga K "InvalidData")) ∧ PySem.W.keepIn K (.ref (He.ga K "InvalidData")) = true ∧ (PySem.W.subIn K (.ref (He.ga K "InvalidData")) (.type "BaseException") = some true ∧ PySem.W.typeIn K (.ref (He.ga K "InvalidData")) = some (.type "type"))
  x_InvalidSeen : PySem.W.excIn K (He.ga K "InvalidSeen") He.veBase "ValueError.__new__" = true ∧ mg "InvalidSeen" = some (.ref (He.ga K "InvalidSeen")) ∧ PySem.W.keepIn K (.ref (He.ga K "InvalidSeen")) = true ∧ (PySem.W.subIn K (.ref (He.ga K "InvalidSeen")) (.type "BaseException") = some true ∧ PySem.W.typeIn K (.ref (He.ga K "InvalidSeen")) = some (.type "type"))
  x_InvalidLost : PySem.W.excIn K (He.ga K "InvalidLost") He.veBase "ValueError.__new__" = true ∧ mg "InvalidLost" = some (.ref (He.ga K "InvalidLost")) ∧ PySem.W.keepIn K (.ref (He.ga K "InvalidLost")) = true ∧ (PySem.W.subIn K (.ref (He.ga K "InvalidLost")) (.type "BaseException") = some true ∧ PySem.W.typeIn K (.ref (He.ga K "InvalidLost")) = some (.type "type"))
  x_InvalidTable : PySem.W.excIn K (He.ga K "InvalidTable") He.veBase "ValueError.__new__" = true ∧ mg "InvalidTable" = some (.ref (He.ga K "InvalidTable")) ∧ PySem.W.keepIn K (.ref (He.ga K "InvalidTable")) = true ∧ (PySem.W.subIn K (.ref (He.ga K "InvalidTable")) (.type "BaseException") = some true ∧ PySem.W.typeIn K (.ref (He.ga K "InvalidTable")) = some (.type "type"))
  x_InvalidFacts : PySem.W.excIn K (He.ga K "InvalidFacts") He.veBase "ValueError.__new__" = true ∧ mg "InvalidFacts" = some (.ref (He.ga K "InvalidFacts")) ∧ PySem.W.keepIn K (.ref (He.ga K "InvalidFacts")) = true ∧ (PySem.W.subIn K (.ref (He.ga K "InvalidFacts")) (.type "BaseException") = some true ∧ PySem.W.typeIn K (.ref (He.ga K "InvalidFacts")) = some (.type "type"))
  x_InvalidShare : PySem.W.excIn K (He.ga K "InvalidShare") He.veBase "ValueError.__new__" = true ∧ mg "InvalidShare" = some (.ref (He.ga K "InvalidShare")) ∧ PySem.W.keepIn K (.ref (He.ga K "InvalidShare")) = true ∧ (PySem.W.subIn K (.ref (He.ga K "InvalidShare")) (.type "BaseException") = some true ∧ PySem.W.typeIn K (.ref (He.ga K "InvalidShare")) = some (.type "type"))
  x_InvalidPlace : PySem.W.excIn K (He.ga K "InvalidPlace") He.veBase "ValueError.__new__" = true ∧ mg "InvalidPlace" = some (.ref (He.ga K "InvalidPlace")) ∧ PySem.W.keepIn K (.ref (He.ga K "InvalidPlace")) = true ∧ (PySem.W.subIn K (.ref (He.ga K "InvalidPlace")) (.type "BaseException") = some true ∧ PySem.W.typeIn K (.ref (He.ga K "InvalidPlace")) = some (.type "type"))
  x_InvalidSign : PySem.W.excIn K (He.ga K "InvalidSign") He.veBase "ValueError.__new__" = true ∧ mg "InvalidSign" = some (.ref (He.ga K "InvalidSign")) ∧ PySem.W.keepIn K (.ref (He.ga K "InvalidSign")) = true ∧ (PySem.W.subIn K (.ref (He.ga K "InvalidSign")) (.type "BaseException") = some true ∧ PySem.W.typeIn K (.ref (He.ga K "InvalidSign")) = some (.type "type"))
  x_InvalidText : PySem.W.excIn K (He.ga K "InvalidText") He.veBase "ValueError.__new__" = true ∧ mg "InvalidText" = some (.ref (He.ga K "InvalidText")) ∧ PySem.W.keepIn K (.ref (He.ga K "InvalidText")) = true ∧ (PySem.W.subIn K (.ref (He.ga K "InvalidText")) (.type "BaseException") = some true ∧ PySem.W.typeIn K (.ref (He.ga K "InvalidText")) = some (.type "type"))
  x_Misfit : PySem.W.excIn K (He.ga K "Misfit") He.veBase "ValueError.__new__" = true ∧ mg "Misfit" = some (.ref (He.ga K "Misfit")) ∧ PySem.W.keepIn K (.ref (He.ga K "Misfit")) = true ∧ (PySem.W.subIn K (.ref (He.ga K "Misfit")) (.type "BaseException") = some true ∧ PySem.W.typeIn K (.ref (He.ga K "Misfit")) = some (.type "type"))
  x_Unlike : PySem.W.excIn K (He.ga K "Unlike") He.veBase "ValueError.__new__" = true ∧ mg "Unlike" = some (.ref (He.ga K "Unlike")) ∧ PySem.W.keepIn K (.ref (He.ga K "Unlike")) = true ∧ (PySem.W.subIn K (.ref (He.ga K "Unlike")) (.type "BaseException") = some true ∧ PySem.W.typeIn K (.ref (He.ga K "Unlike")) = some (.type "type"))
  x_NothingToUndo : PySem.W.excIn K (He.ga K "NothingToUndo") He.veBase "ValueError.__new__" = true ∧ mg "NothingToUndo" = some (.ref (He.ga K "NothingToUndo")) ∧ PySem.W.keepIn K (.ref (He.ga K "NothingToUndo")) = true ∧ (PySem.W.subIn K (.ref (He.ga K "NothingToUndo")) (.type "BaseException") = some true ∧ PySem.W.typeIn K (.ref (He.ga K "NothingToUndo")) = some (.type "type"))
  m_SplitError : mg "SplitError" = some (.ref (He.ga K "SplitError"))
  m_InvalidSigns : mg "InvalidSigns" = some (.ref (He.ga K "InvalidSigns"))
  m_InvalidChance : mg "InvalidChance" = some (.ref (He.ga K "InvalidChance"))
  m_InvalidNumber : mg "InvalidNumber" = some (.ref (He.ga K "InvalidNumber"))
  m_InvalidCode : mg "InvalidCode" = some (.ref (He.ga K "InvalidCode"))
  m_InvalidData : mg "InvalidData" = some (.ref (He.ga K "InvalidData"))
  m_InvalidSeen : mg "InvalidSeen" = some (.ref (He.ga K "InvalidSeen"))
  m_InvalidLost : mg "InvalidLost" = some (.ref (He.ga K "InvalidLost"))
  m_InvalidTable : mg "InvalidTable" = some (.ref (He.ga K "InvalidTable"))
  m_InvalidFacts : mg "InvalidFacts" = some (.ref (He.ga K "InvalidFacts"))
  m_InvalidShare : mg "InvalidShare" = some (.ref (He.ga K "InvalidShare"))
  m_InvalidPlace : mg "InvalidPlace" = some (.ref (He.ga K "InvalidPlace"))
  m_InvalidSign : mg "InvalidSign" = some (.ref (He.ga K "InvalidSign"))
  m_InvalidText : mg "InvalidText" = some (.ref (He.ga K "InvalidText"))
  m_Misfit : mg "Misfit" = some (.ref (He.ga K "Misfit"))
  m_Unlike : mg "Unlike" = some (.ref (He.ga K "Unlike"))
  m_NothingToUndo : mg "NothingToUndo" = some (.ref (He.ga K "NothingToUndo"))
  m_TooMany : mg "TooMany" = some (.ref (He.ga K "TooMany"))
  exm : ∀ j, j < 16 → PySem.W.exmOne K (.ref ((tbK K).exs j)) (.ref (He.ga K "SplitError")) = some true
  q_InvalidSigns : ExcC K (He.ga K "InvalidSigns") ∧ [PySem.W.kitOne K (.ref (He.ga K "InvalidSigns")) (.ref (He.ga K "InvalidSigns")), PySem.W.kitOne K (.ref (He.ga K "InvalidSigns")) (.ref (He.ga K "InvalidChance")), PySem.W.kitOne K (.ref (He.ga K "InvalidSigns")) (.ref (He.ga K "InvalidNumber")), PySem.W.kitOne K (.ref (He.ga K "InvalidSigns")) (.ref (He.ga K "InvalidCode")), PySem.W.kitOne K (.ref (He.ga K "InvalidSigns")) (.ref (He.ga K "InvalidData")), PySem.W.kitOne K (.ref (He.ga K "InvalidSigns")) (.ref (He.ga K "InvalidSeen")), PySem.W.kitOne K (.ref (He.ga K "InvalidSigns")) (.ref (He.ga K "InvalidLost")), PySem.W.kitOne K (.ref (He.ga K "InvalidSigns")) (.ref (He.ga K "InvalidTable")), PySem.W.kitOne K (.ref (He.ga K "InvalidSigns")) (.ref (He.ga K "InvalidFacts")), PySem.W.kitOne K (.ref (He.ga K "InvalidSigns")) (.ref (He.ga K "InvalidShare")), PySem.W.kitOne K (.ref (He.ga K "InvalidSigns")) (.ref (He.ga K "InvalidPlace")), PySem.W.kitOne K (.ref (He.ga K "InvalidSigns")) (.ref (He.ga K "InvalidSign")), PySem.W.kitOne K (.ref (He.ga K "InvalidSigns")) (.ref (He.ga K "InvalidText")), PySem.W.kitOne K (.ref (He.ga K "InvalidSigns")) (.ref (He.ga K "Misfit")), PySem.W.kitOne K (.ref (He.ga K "InvalidSigns")) (.ref (He.ga K "Unlike")), PySem.W.kitOne K (.ref (He.ga K "InvalidSigns")) (.ref (He.ga K "NothingToUndo")), PySem.W.kitOne K (.ref (He.ga K "InvalidSigns")) (.ref (He.ga K "TooMany")), PySem.W.kitOne K (.ref (He.ga K "InvalidSigns")) (.type "ValueError")] = [some true, some false, some false, some false, some false, some false, some false, some false, some false, some false, some false, some false, some false, some false, some false, some false, some false, some true]
  q_InvalidChance : ExcC K (He.ga K "InvalidChance") ∧ [PySem.W.kitOne K (.ref (He.ga K "InvalidChance")) (.ref (He.ga K "InvalidSigns")), PySem.W.kitOne K (.ref (He.ga K "InvalidChance")) (.ref (He.ga K "InvalidChance")), PySem.W.kitOne K (.ref (He.ga K "InvalidChance")) (.ref (He.ga K "InvalidNumber")), PySem.W.kitOne K (.ref (He.ga K "InvalidChance")) (.ref (He.ga K "InvalidCode")), PySem.W.kitOne K (.ref (He.ga K "InvalidChance")) (.ref (He.ga K "InvalidData")), PySem.W.kitOne K (.ref (He.ga K "InvalidChance")) (.ref (He.ga K "InvalidSeen")), PySem.W.kitOne K (.ref (He.ga K "InvalidChance")) (.ref (He.ga K "InvalidLost")), PySem.W.kitOne K (.ref (He.ga K "InvalidChance")) (.ref (He.ga K "InvalidTable")), PySem.W.kitOne K (.ref (He.ga K "InvalidChance")) (.ref (He.ga K "InvalidFacts")), PySem.W.kitOne K (.ref (He.ga K "InvalidChance")) (.ref (He.ga K "InvalidShare")), PySem.W.kitOne K (.ref (He.ga K "InvalidChance")) (.ref (He.ga K "InvalidPlace")), PySem.W.kitOne K (.ref (He.ga K "InvalidChance")) (.ref (He.ga K "InvalidSign")), PySem.W.kitOne K (.ref (He.ga K "InvalidChance")) (.ref (He.ga K "InvalidText")), PySem.W.kitOne K (.ref (He.ga K "InvalidChance")) (.ref (He.ga K "Misfit")), PySem.W.kitOne K (.ref (He.ga K "InvalidChance")) (.ref (He.ga K "Unlike")), PySem.W.kitOne K (.ref (He.ga K "InvalidChance")) (.ref (He.ga K "NothingToUndo")), PySem.W.kitOne K (.ref (He.ga K "InvalidChance")) (.ref (He.ga K "TooMany")), PySem.W.kitOne K (.ref (He.ga K "InvalidChance")) (.type "ValueError")] = [some false, some true, some false, some false, some false, some false, some false, some false, some false, some false, some false, some false, some false, some false, some false, some false, some false, some true]
  q_InvalidNumber : ExcC K (He.ga K "InvalidNumber") ∧ [PySem.W.kitOne K (.ref (He.ga K "InvalidNumber")) (.ref (He.ga K "InvalidSigns")), PySem.W.kitOne K (.ref (He.ga K "InvalidNumber")) (.ref (He.ga K "InvalidChance")), PySem.W.kitOne K (.ref (He.ga K "InvalidNumber")) (.ref (He.ga K "InvalidNumber")), PySem.W.kitOne K (.ref (He.ga K "InvalidNumber")) (.ref (He.ga K "InvalidCode")), PySem.W.kitOne K (.ref (He.ga K "InvalidNumber")) (.ref (He.ga K "InvalidData")), PySem.W.kitOne K (.ref (He.ga K "InvalidNumber")) (.ref (He.ga K "InvalidSeen")), PySem.W.kitOne K (.ref (He.ga K "InvalidNumber")) (.ref (He.ga K "InvalidLost")), PySem.W.kitOne K (.ref (He.ga K "InvalidNumber")) (.ref (He.ga K "InvalidTable")), PySem.W.kitOne K (.ref (He.ga K "InvalidNumber")) (.ref (He.ga K "InvalidFacts")), PySem.W.kitOne K (.ref (He.ga K "InvalidNumber")) (.ref (He.ga K "InvalidShare")), PySem.W.kitOne K (.ref (He.ga K "InvalidNumber")) (.ref (He.ga K "InvalidPlace")), PySem.W.kitOne K (.ref (He.ga K "InvalidNumber")) (.ref (He.ga K "InvalidSign")), PySem.W.kitOne K (.ref (He.ga K "InvalidNumber")) (.ref (He.ga K "InvalidText")), PySem.W.kitOne K (.ref (He.ga K "InvalidNumber")) (.ref (He.ga K "Misfit")), PySem.W.kitOne K (.ref (He.ga K "InvalidNumber")) (.ref (He.ga K "Unlike")), PySem.W.kitOne K (.ref (He.ga K "InvalidNumber")) (.ref (He.ga K "NothingToUndo")), PySem.W.kitOne K (.ref (He.ga K "InvalidNumber")) (.ref (He.ga K "TooMany")), PySem.W.kitOne K (.ref (He.ga K "InvalidNumber")) (.type "ValueError")] = [some false, some false, some true, some false, some false, some false, some false, some false, some false, some false, some false, some false, some false, some false, some false, some false, some false, some true]
  q_InvalidCode : ExcC K (He.ga K "InvalidCode") ∧ [PySem.W.kitOne K (.ref (He.ga K "InvalidCode")) (.ref (He.ga K "InvalidSigns")), PySem.W.kitOne K (.ref (He.ga K "InvalidCode")) (.ref (He.ga K "InvalidChance")), PySem.W.kitOne K (.ref (He.ga K "InvalidCode")) (.ref (He.ga K "InvalidNumber")), PySem.W.kitOne K (.ref (He.ga K "InvalidCode")) (.ref (He.ga K "InvalidCode")), PySem.W.kitOne K (.ref (He.ga K "InvalidCode")) (.ref (He.ga K "InvalidData")), PySem.W.kitOne K (.ref (He.ga K "InvalidCode")) (.ref (He.ga K "InvalidSeen")), PySem.W.kitOne K (.ref (He.ga K "InvalidCode")) (.ref (He.ga K "InvalidLost")), PySem.W.kitOne K (.ref (He.ga K "InvalidCode")) (.ref (He.ga K "InvalidTable")), PySem.W.kitOne K (.ref (He.ga K "InvalidCode")) (.ref (He.ga K "InvalidFacts")), PySem.W.kitOne K (.ref (He.ga K "InvalidCode")) (.ref (He.ga K "InvalidShare")), PySem.W.kitOne K (.ref (He.ga K "InvalidCode")) (.ref (He.ga K "InvalidPlace")), PySem.W.kitOne K (.ref (He.ga K "InvalidCode")) (.ref (He.ga K "InvalidSign")), PySem.W.kitOne K (.ref (He.ga K "InvalidCode")) (.ref (He.ga K "InvalidText")), PySem.W.kitOne K (.ref (He.ga K "InvalidCode")) (.ref (He.ga K "Misfit")), PySem.W.kitOne K (.ref (He.ga K "InvalidCode")) (.ref (He.ga K "Unlike")), PySem.W.kitOne K (.ref (He.ga K "InvalidCode")) (.ref (He.ga K "NothingToUndo")), PySem.W.kitOne K (.ref (He.ga K "InvalidCode")) (.ref (He.ga K "TooMany")), PySem.W.kitOne K (.ref (He.ga K "InvalidCode")) (.type "ValueError")] = [some false, some false, some false, some true, some false, some false, some false, some false, some false, some false, some false, some false, some false, some false, some false, some false, some false, some true]
  q_InvalidData : ExcC K (He.ga K "InvalidData") ∧ [PySem.W.kitOne K (.ref (He.ga K "InvalidData")) (.ref (He.ga K "InvalidSigns")), PySem.W.kitOne K (.ref (He.ga K "InvalidData")) (.ref (He.ga K "InvalidChance")), PySem.W.kitOne K (.ref (He.ga K "InvalidData")) (.ref (He.ga K "InvalidNumber")), PySem.W.kitOne K (.ref (He.ga K "InvalidData")) (.ref (He.ga K "InvalidCode")), PySem.W.kitOne K (.ref (He.ga K "InvalidData")) (.ref (He.ga K "InvalidData")), PySem.W.kitOne K (.ref (He.ga K "InvalidData")) (.ref (He.ga K "InvalidSeen")), PySem.W.kitOne K (.ref (He.ga K "InvalidData")) (.ref (He.ga K "InvalidLost")), PySem.W.kitOne K (.ref (He.ga K "InvalidData")) (.ref (He.ga K "InvalidTable")), PySem.W.kitOne K (.ref (He.ga K "InvalidData")) (.ref (He.ga K "InvalidFacts")), PySem.W.kitOne K (.ref (He.ga K "InvalidData")) (.ref (He.ga K "InvalidShare")), PySem.W.kitOne K (.ref (He.ga K "InvalidData")) (.ref (He.ga K "InvalidPlace")), PySem.W.kitOne K (.ref (He.ga K "InvalidData")) (.ref (He.ga K "InvalidSign")), PySem.W.kitOne K (.ref (He.ga K "InvalidData")) (.ref (He.ga K "InvalidText")), PySem.W.kitOne K (.ref (He.ga K "InvalidData")) (.ref (He.ga K "Misfit")), PySem.W.kitOne K (.ref (He.ga K "InvalidData")) (.ref (He.ga K "Unlike")), PySem.W.kitOne K (.ref (He.ga K "InvalidData")) (.ref (He.ga K "NothingToUndo")), PySem.W.kitOne K (.ref (He.ga K "InvalidData")) (.ref (He.ga K "TooMany")), PySem.W.kitOne K (.ref (He.ga K "InvalidData")) (.type "ValueError")] = [some false, some false, some false, some false, some true, some false, some false, some false, some false, some false, some false, some false, some false, some false, some false, some false, some false, some true]
  q_InvalidSeen : ExcC K (He.ga K "InvalidSeen") ∧ [PySem.W.kitOne K (.ref (He.ga K "InvalidSeen")) (.ref (He.ga K "InvalidSigns")), PySem.W.kitOne K (.ref (He.ga K "InvalidSeen")) (.ref (He.ga K "InvalidChance")), PySem.W.kitOne K (.ref (He.ga K "InvalidSeen")) (.ref (He.ga K "InvalidNumber")), PySem.W.kitOne K (.ref (He.ga K "InvalidSeen")) (.ref (He.ga K "InvalidCode")), PySem.W.kitOne K (.ref (He.ga K "InvalidSeen")) (.ref (He.ga K "InvalidData")), PySem.W.kitOne K (.ref (He.ga K "InvalidSeen")) (.ref (He.ga K "InvalidSeen")), PySem.W.kitOne K (.ref (He.ga K "InvalidSeen")) (.ref (He.ga K "InvalidLost")), PySem.W.kitOne K (.ref (He.ga K "InvalidSeen")) (.ref (He.ga K "InvalidTable")), PySem.W.kitOne K (.ref (He.ga K "InvalidSeen")) (.ref (He.ga K "InvalidFacts")), PySem.W.kitOne K (.ref (He.ga K "InvalidSeen")) (.ref (He.ga K "InvalidShare")), PySem.W.kitOne K (.ref (He.ga K "InvalidSeen")) (.ref (He.ga K "InvalidPlace")), PySem.W.kitOne K (.ref (He.ga K "InvalidSeen")) (.ref (He.ga K "InvalidSign")), PySem.W.kitOne K (.ref (He.ga K "InvalidSeen")) (.ref (He.ga K "InvalidText")), PySem.W.kitOne K (.ref (He.ga K "InvalidSeen")) (.ref (He.ga K "Misfit")), PySem.W.kitOne K (.ref (He.ga K "InvalidSeen")) (.ref (He.ga K "Unlike")), PySem.W.kitOne K (.ref (He.ga K "InvalidSeen")) (.ref (He.ga K "NothingToUndo")), PySem.W.kitOne K (.ref (He.ga K "InvalidSeen")) (.ref (He.ga K "TooMany")), PySem.W.kitOne K (.ref (He.ga K "InvalidSeen")) (.type "ValueError")] = [some false, some false, some false, some false, some false, some true, some false, some false, some false, some false, some false, some false, some false, some false, some false, some false, some false, some true]
  q_InvalidLost : ExcC K (He.ga K "InvalidLost") ∧ [PySem.W.kitOne K (.ref (He.ga K "InvalidLost")) (.ref (He.ga K "InvalidSigns")), PySem.W.kitOne K (.ref (He.ga K "InvalidLost")) (.ref (He.ga K "InvalidChance")), PySem.W.kitOne K (.ref (He.ga K "InvalidLost")) (.ref (He.ga K "InvalidNumber")), PySem.W.kitOne K (.ref (He.ga K "InvalidLost")) (.ref (He.ga K "InvalidCode")), PySem.W.kitOne K (.ref (He.ga K "InvalidLost")) (.ref (He.ga K "InvalidData")), PySem.W.kitOne K (.ref (He.ga K "InvalidLost")) (.ref (He.ga K "InvalidSeen")), PySem.W.kitOne K (.ref (He.ga K "InvalidLost")) (.ref (He.ga K "InvalidLost")), PySem.W.kitOne K (.ref (He.ga K "InvalidLost")) (.ref (He.ga K "InvalidTable")), PySem.W.kitOne K (.ref (He.ga K "InvalidLost")) (.ref (He.ga K "InvalidFacts")), PySem.W.kitOne K (.ref (He.ga K "InvalidLost")) (.ref (He.ga K "InvalidShare")), PySem.W.kitOne K (.ref (He.ga K "InvalidLost")) (.ref (He.ga K "InvalidPlace")), PySem.W.kitOne K (.ref (He.ga K "InvalidLost")) (.ref (He.ga K "InvalidSign")), PySem.W.kitOne K (.ref (He.ga K "InvalidLost")) (.ref (He.ga K "InvalidText")), PySem.W.kitOne K (.ref (He.ga K "InvalidLost")) (.ref (He.ga K "Misfit")), PySem.W.kitOne K (.ref (He.ga K "InvalidLost")) (.ref (He.ga K "Unlike")), PySem.W.kitOne K (.ref (He.ga K "InvalidLost")) (.ref (He.ga K "NothingToUndo")), PySem.W.kitOne K (.ref (He.ga K "InvalidLost")) (.ref (He.ga K "TooMany")), PySem.W.kitOne K (.ref (He.ga K "InvalidLost")) (.type "ValueError")] = [some false, some false, some false, some false, some false, some false, some true, some false, some false, some false, some false, some false, some false, some false, some false, some false, some false, some true]
  q_InvalidTable : ExcC K (He.ga K "InvalidTable") ∧ [PySem.W.kitOne K (.ref (He.ga K "InvalidTable")) (.ref (He.ga K "InvalidSigns")), PySem.W.kitOne K (.ref (He.ga K "InvalidTable")) (.ref (He.ga K "InvalidChance")), PySem.W.kitOne K (.ref (He.ga K "InvalidTable")) (.ref (He.ga K "InvalidNumber")), PySem.W.kitOne K (.ref (He.ga K "InvalidTable")) (.ref (He.ga K "InvalidCode")), PySem.W.kitOne K (.ref (He.ga K "InvalidTable")) (.ref (He.ga K "InvalidData")), PySem.W.kitOne K (.ref (He.ga K "InvalidTable")) (.ref (He.ga K "InvalidSeen")), PySem.W.kitOne K (.ref (He.ga K "InvalidTable")) (.ref (He.ga K "InvalidLost")), PySem.W.kitOne K (.ref (He.ga K "InvalidTable")) (.ref (He.ga K "InvalidTable")), PySem.W.kitOne K (.ref (He.ga K "InvalidTable")) (.ref (He.ga K "InvalidFacts")), PySem.W.kitOne K (.ref (He.ga K "InvalidTable")) (.ref (He.ga K "InvalidShare")), PySem.W.kitOne K (.ref (He.ga K "InvalidTable")) (.ref (He.ga K "InvalidPlace")), PySem.W.kitOne K (.ref (He.ga K "InvalidTable")) (.ref (He.ga K "InvalidSign")), PySem.W.kitOne K (.ref (He.ga K "InvalidTable")) (.ref (He.ga K "InvalidText")), PySem.W.kitOne K (.ref (He.ga K "InvalidTable")) (.ref (He.ga K "Misfit")), PySem.W.kitOne K (.ref (He.ga K "InvalidTable")) (.ref (He.ga K "Unlike")), PySem.W.kitOne K (.ref (He.ga K "InvalidTable")) (.ref (He.ga K "NothingToUndo")), PySem.W.kitOne K (.ref (He.ga K "InvalidTable")) (.ref (He.ga K "TooMany")), PySem.W.kitOne K (.ref (He.ga K "InvalidTable")) (.type "ValueError")] = [some false, some false, some false, some false, some false, some false, some false, some true, some false, some false, some false, some false, some false, some false, some false, some false, some false, some true]
  q_InvalidFacts : ExcC K (He.ga K "InvalidFacts") ∧ [PySem.W.kitOne K (.ref (He.ga K "InvalidFacts")) (.ref (He.ga K "InvalidSigns")), PySem.W.kitOne K (.ref (He.ga K "InvalidFacts")) (.ref (He.ga K "InvalidChance")), PySem.W.kitOne K (.ref (He.ga K "InvalidFacts")) (.ref (He.ga K "InvalidNumber")), PySem.W.kitOne K (.ref (He.ga K "InvalidFacts")) (.ref (He.ga K "InvalidCode")), PySem.W.kitOne K (.ref (He.ga K "InvalidFacts")) (.ref (He.ga K "InvalidData")), PySem.W.kitOne K (.ref (He.ga K "InvalidFacts")) (.ref (He.ga K "InvalidSeen")), PySem.W.kitOne K (.ref (He.ga K "InvalidFacts")) (.ref (He.ga K "InvalidLost")), PySem.W.kitOne K (.ref (He.ga K "InvalidFacts")) (.ref (He.ga K "InvalidTable")), PySem.W.kitOne K (.ref (He.ga K "InvalidFacts")) (.ref (He.ga K "InvalidFacts")), PySem.W.kitOne K (.ref (He.ga K "InvalidFacts")) (.ref (He.ga K "InvalidShare")), PySem.W.kitOne K (.ref (He.ga K "InvalidFacts")) (.ref (He.ga K "InvalidPlace")), PySem.W.kitOne K (.ref (He.ga K "InvalidFacts")) (.ref (He.ga K "InvalidSign")), PySem.W.kitOne K (.ref (He.ga K "InvalidFacts")) (.ref (He.ga K "InvalidText")), PySem.W.kitOne K (.ref (He.ga K "InvalidFacts")) (.ref (He.ga K "Misfit")), PySem.W.kitOne K (.ref (He.ga K "InvalidFacts")) (.ref (He.ga K "Unlike")), PySem.W.kitOne K (.ref (He.ga K "InvalidFacts")) (.ref (He.ga K "NothingToUndo")), PySem.W.kitOne K (.ref (He.ga K "InvalidFacts")) (.ref (He.ga K "TooMany")), PySem.W.kitOne K (.ref (He.ga K "InvalidFacts")) (.type "ValueError")] = [some false, some false, some false, some false, some false, some false, some false, some false, some true, some false, some false, some false, some false, some false, some false, some false, some false, some true]
  q_InvalidShare : ExcC K (He.ga K "InvalidShare") ∧ [PySem.W.kitOne K (.ref (He.ga K "InvalidShare")) (.ref (He.ga K "InvalidSigns")), PySem.W.kitOne K (.ref (He.ga K "InvalidShare")) (.ref (He.ga K "InvalidChance")), PySem.W.kitOne K (.ref (He.ga K "InvalidShare")) (.ref (He.ga K "InvalidNumber")), PySem.W.kitOne K (.ref (He.ga K "InvalidShare")) (.ref (He.ga K "InvalidCode")), PySem.W.kitOne K (.ref (He.ga K "InvalidShare")) (.ref (He.ga K "InvalidData")), PySem.W.kitOne K (.ref (He.ga K "InvalidShare")) (.ref (He.ga K "InvalidSeen")), PySem.W.kitOne K (.ref (He.ga K "InvalidShare")) (.ref (He.ga K "InvalidLost")), PySem.W.kitOne K (.ref (He.ga K "InvalidShare")) (.ref (He.ga K "InvalidTable")), PySem.W.kitOne K (.ref (He.ga K "InvalidShare")) (.ref (He.ga K "InvalidFacts")), PySem.W.kitOne K (.ref (He.ga K "InvalidShare")) (.ref (He.ga K "InvalidShare")), PySem.W.kitOne K (.ref (He.ga K "InvalidShare")) (.ref (He.ga K "InvalidPlace")), PySem.W.kitOne K (.ref (He.ga K "InvalidShare")) (.ref (He.ga K "InvalidSign")), PySem.W.kitOne K (.ref (He.ga K "InvalidShare")) (.ref (He.ga K "InvalidText")), PySem.W.kitOne K (.ref (He.ga K "InvalidShare")) (.ref (He.ga K "Misfit")), PySem.W.kitOne K (.ref (He.ga K "InvalidShare")) (.ref (He.ga K "Unlike")), PySem.W.kitOne K (.ref (He.ga K "InvalidShare")) (.ref (He.ga K "NothingToUndo")), PySem.W.kitOne K (.ref (He.ga K "InvalidShare")) (.ref (He.ga K "TooMany")), PySem.W.kitOne K (.ref (He.ga K "InvalidShare")) (.type "ValueError")] = [some false, some false, some false, some false, some false, some false, some false, some false, some false, some true, some false, some false, some false, some false, some false, some false, some false, some true]
  q_InvalidPlace : ExcC K (He.ga K "InvalidPlace") ∧ [PySem.W.kitOne K (.ref (He.ga K "InvalidPlace")) (.ref (He.ga K "InvalidSigns")), PySem.W.kitOne K (.ref (He.ga K "InvalidPlace")) (.ref (He.ga K "InvalidChance")), PySem.W.kitOne K (.ref (He.ga K "InvalidPlace")) (.ref (He.ga K "InvalidNumber")), PySem.W.kitOne K (.ref (He.ga K "InvalidPlace")) (.ref (He.ga K "InvalidCode")), PySem.W.kitOne K (.ref (He.ga K "InvalidPlace")) (.ref (He.ga K "InvalidData")), PySem.W.kitOne K (.ref (He.ga K "InvalidPlace")) (.ref (He.ga K "InvalidSeen")), PySem.W.kitOne K (.ref (He.ga K "InvalidPlace")) (.ref (He.ga K "InvalidLost")), PySem.W.kitOne K (.ref (He.ga K "InvalidPlace")) (.ref (He.ga K "InvalidTable")), PySem.W.kitOne K (.ref (He.ga K "InvalidPlace")) (.ref (He.ga K "InvalidFacts")), PySem.W.kitOne K (.ref (He.ga K "InvalidPlace")) (.ref (He.ga K "InvalidShare")), PySem.W.kitOne K (.ref (He.ga K "InvalidPlace")) (.ref (He.ga K "InvalidPlace")), PySem.W.kitOne K (.ref (He.ga K "InvalidPlace")) (.ref (He.ga K "InvalidSign")), PySem.W.kitOne K (.ref (He.ga K "InvalidPlace")) (.ref (He.ga K "InvalidText")), PySem.W.kitOne K (.ref (He.ga K "InvalidPlace")) (.ref (He.ga K "Misfit")), PySem.W.kitOne K (.ref (He.ga K "InvalidPlace")) (.ref (He.ga K "Unlike")), PySem.W.kitOne K (.ref (He.ga K "InvalidPlace")) (.ref (He.ga K "NothingToUndo")), PySem.W.kitOne K (.ref (He.ga K "InvalidPlace")) (.ref (He.ga K "TooMany")), PySem.W.kitOne K (.ref (He.ga K "InvalidPlace")) (.type "ValueError")] = [some false, some false, some false, some false, some false, some false, some false, some false, some false, some false, some true, some false, some false, some false, some false, some false, some false, some true]
  q_InvalidSign : ExcC K (He.ga K "InvalidSign") ∧ [PySem.W.kitOne K (.ref (He.ga K "InvalidSign")) (.ref (He.ga K "InvalidSigns")), PySem.W.kitOne K (.ref (He.ga K "InvalidSign")) (.ref (He.ga K "InvalidChance")), PySem.W.kitOne K (.ref (He.ga K "InvalidSign")) (.ref (He.ga K "InvalidNumber")), PySem.W.kitOne K (.ref (He.ga K "InvalidSign")) (.ref (He.ga K "InvalidCode")), PySem.W.kitOne K (.ref (He.ga K "InvalidSign")) (.ref (He.ga K "InvalidData")), PySem.W.kitOne K (.ref (He.ga K "InvalidSign")) (.ref (He.ga K "InvalidSeen")), PySem.W.kitOne K (.ref (He.ga K "InvalidSign")) (.ref (He.ga K "InvalidLost")), PySem.W.kitOne K (.ref (He.ga K "InvalidSign")) (.ref (He.ga K "InvalidTable")), PySem.W.kitOne K (.ref (He.ga K "InvalidSign")) (.ref (He.ga K "InvalidFacts")), PySem.W.kitOne K (.ref (He.ga K "InvalidSign")) (.ref (He.ga K "InvalidShare")), PySem.W.kitOne K (.ref (He.ga K "InvalidSign")) (.ref (He.ga K "InvalidPlace")), PySem.W.kitOne K (.ref (He.ga K "InvalidSign")) (.ref (He.ga K "InvalidSign")), PySem.W.kitOne K (.ref (He.ga K "InvalidSign")) (.ref (He.ga K "InvalidText")), PySem.W.kitOne K (.ref (He.ga K "InvalidSign")) (.ref (He.ga K "Misfit")), PySem.W.kitOne K (.ref (He.ga K "InvalidSign")) (.ref (He.ga K "Unlike")), PySem.W.kitOne K (.ref (He.ga K "InvalidSign")) (.ref (He.ga K "NothingToUndo")), PySem.W.kitOne K (.ref (He.ga K "InvalidSign")) (.ref (He.ga K "TooMany")), PySem.W.kitOne K (.ref (He.ga K "InvalidSign")) (.type "ValueError")] = [some false, some false, some false, some false, some false, some false, some false, some false, some false, some false, some false, some true, some false, some false, some false, some false, some false, some true]
  q_InvalidText : ExcC K (He.ga K "InvalidText") ∧ [PySem.W.kitOne K (.ref (He.ga K "InvalidText")) (.ref (He.ga K "InvalidSigns")), PySem.W.kitOne K (.ref (He.ga K "InvalidText")) (.ref (He.ga K "InvalidChance")), PySem.W.kitOne K (.ref (He.ga K "InvalidText")) (.ref (He.ga K "InvalidNumber")), PySem.W.kitOne K (.ref (He.ga K "InvalidText")) (.ref (He.ga K "InvalidCode")), PySem.W.kitOne K (.ref (He.ga K "InvalidText")) (.ref (He.ga K "InvalidData")), PySem.W.kitOne K (.ref (He.ga K "InvalidText")) (.ref (He.ga K "InvalidSeen")), PySem.W.kitOne K (.ref (He.ga K "InvalidText")) (.ref (He.ga K "InvalidLost")), PySem.W.kitOne K (.ref (He.ga K "InvalidText")) (.ref (He.ga K "InvalidTable")), PySem.W.kitOne K (.ref (He.ga K "InvalidText")) (.ref (He.ga K "InvalidFacts")), PySem.W.kitOne K (.ref (He.ga K "InvalidText")) (.ref (He.ga K "InvalidShare")), PySem.W.kitOne K (.ref (He.ga K "InvalidText")) (.ref (He.ga K "InvalidPlace")), PySem.W.kitOne K (.ref (He.ga K "InvalidText")) (.ref (He.ga K "InvalidSign")), PySem.W.kitOne K (.ref (He.ga K "InvalidText")) (.ref (He.ga K "InvalidText")), PySem.W.kitOne K (.ref (He.ga K "InvalidText")) (.ref (He.ga K "Misfit")), PySem.W.kitOne K (.ref (He.ga K "InvalidText")) (.ref (He.ga K "Unlike")), PySem.W.kitOne K (.ref (He.ga K "InvalidText")) (.ref (He.ga K "NothingToUndo")), PySem.W.kitOne K (.ref (He.ga K "InvalidText")) (.ref (He.ga K "TooMany")), PySem.W.kitOne K (.ref (He.ga K "InvalidText")) (.type "ValueError")] = [some false, some false, some false, some false, some false, some false, some false, some false, some false, some false, some false, some false, some true, some false, some false, some false, some false, some true]
  q_Misfit : ExcC K (He.ga K "Misfit") ∧ [PySem.W.kitOne K (.ref (He.ga K "Misfit")) (.ref (He.ga K "InvalidSigns")), PySem.W.kitOne K (.ref (He.ga K "Misfit")) (.ref (He.ga K "InvalidChance")), PySem.W.kitOne K (.ref (He.ga K "Misfit")) (.ref (He.ga K "InvalidNumber")), PySem.W.kitOne K (.ref (He.ga K "Misfit")) (.ref (He.ga K "InvalidCode")), PySem.W.kitOne K (.ref (He.ga K "Misfit")) (.ref (He.ga K "InvalidData")), PySem.W.kitOne K (.ref (He.ga K "Misfit")) (.ref (He.ga K "InvalidSeen")), PySem.W.kitOne K (.ref (He.ga K "Misfit")) (.ref (He.ga K "InvalidLost")), PySem.W.kitOne K (.ref (He.ga K "Misfit")) (.ref (He.ga K "InvalidTable")), PySem.W.kitOne K (.ref (He.ga K "Misfit")) (.ref (He.ga K "InvalidFacts")), PySem.W.kitOne K (.ref (He.ga K "Misfit")) (.ref (He.ga K "InvalidShare")), PySem.W.kitOne K (.ref (He.ga K "Misfit")) (.ref (He.ga K "InvalidPlace")), PySem.W.kitOne K (.ref (He.ga K "Misfit")) (.ref (He.ga K "InvalidSign")), PySem.W.kitOne K (.ref (He.ga K "Misfit")) (.ref (He.ga K "InvalidText")), PySem.W.kitOne K (.ref (He.ga K "Misfit")) (.ref (He.ga K "Misfit")), PySem.W.kitOne K (.ref (He.ga K "Misfit")) (.ref (He.ga K "Unlike")), PySem.W.kitOne K (.ref (He.ga K "Misfit")) (.ref (He.ga K "NothingToUndo")), PySem.W.kitOne K (.ref (He.ga K "Misfit")) (.ref (He.ga K "TooMany")), PySem.W.kitOne K (.ref (He.ga K "Misfit")) (.type "ValueError")] = [some false, some false, some false, some false, some false, some false, some false, some false, some false, some false, some false, some false, some false, some true, some false, some false, some false, some true]
  q_Unlike : ExcC K (He.ga K "Unlike") ∧ [PySem.W.kitOne K (.ref (He.ga K "Unlike")) (.ref (He.ga K "InvalidSigns")), PySem.W.kitOne K (.ref (He.ga K "Unlike")) (.ref (He.ga K "InvalidChance")), PySem.W.kitOne K (.ref (He.ga K "Unlike")) (.ref (He.ga K "InvalidNumber")), PySem.W.kitOne K (.ref (He.ga K "Unlike")) (.ref (He.ga K "InvalidCode")), PySem.W.kitOne K (.ref (He.ga K "Unlike")) (.ref (He.ga K "InvalidData")), PySem.W.kitOne K (.ref (He.ga K "Unlike")) (.ref (He.ga K "InvalidSeen")), PySem.W.kitOne K (.ref (He.ga K "Unlike")) (.ref (He.ga K "InvalidLost")), PySem.W.kitOne K (.ref (He.ga K "Unlike")) (.ref (He.ga K "InvalidTable")), PySem.W.kitOne K (.ref (He.ga K "Unlike")) (.ref (He.ga K "InvalidFacts")), PySem.W.kitOne K (.ref (He.ga K "Unlike")) (.ref (He.ga K "InvalidShare")), PySem.W.kitOne K (.ref (He.ga K "Unlike")) (.ref (He.ga K "InvalidPlace")), PySem.W.kitOne K (.ref (He.ga K "Unlike")) (.ref (He.ga K "InvalidSign")), PySem.W.kitOne K (.ref (He.ga K "Unlike")) (.ref (He.ga K "InvalidText")), PySem.W.kitOne K (.ref (He.ga K "Unlike")) (.ref (He.ga K "Misfit")), PySem.W.kitOne K (.ref (He.ga K "Unlike")) (.ref (He.ga K "Unlike")), PySem.W.kitOne K (.ref (He.ga K "Unlike")) (.ref (He.ga K "NothingToUndo")), PySem.W.kitOne K (.ref (He.ga K "Unlike")) (.ref (He.ga K "TooMany")), PySem.W.kitOne K (.ref (He.ga K "Unlike")) (.type "ValueError")] = [some false, some false, some false, some false, some false, some false, some false, some false, some false, some false, some false, some false, some false, some false, some true, some false, some false, some true]
  q_NothingToUndo : ExcC K (He.ga K "NothingToUndo") ∧ [PySem.W.kitOne K (.ref (He.ga K "NothingToUndo")) (.ref (He.ga K "InvalidSigns")), PySem.W.kitOne K (.ref (He.ga K "NothingToUndo")) (.ref (He.ga K "InvalidChance")), PySem.W.kitOne K (.ref (He.ga K "NothingToUndo")) (.ref (He.ga K "InvalidNumber")), PySem.W.kitOne K (.ref (He.ga K "NothingToUndo")) (.ref (He.ga K "InvalidCode")), PySem.W.kitOne K (.ref (He.ga K "NothingToUndo")) (.ref (He.ga K "InvalidData")), PySem.W.kitOne K (.ref (He.ga K "NothingToUndo")) (.ref (He.ga K "InvalidSeen")), PySem.W.kitOne K (.ref (He.ga K "NothingToUndo")) (.ref (He.ga K "InvalidLost")), PySem.W.kitOne K (.ref (He.ga K "NothingToUndo")) (.ref (He.ga K "InvalidTable")), PySem.W.kitOne K (.ref (He.ga K "NothingToUndo")) (.ref (He.ga K "InvalidFacts")), PySem.W.kitOne K (.ref (He.ga K "NothingToUndo")) (.ref (He.ga K "InvalidShare")), PySem.W.kitOne K (.ref (He.ga K "NothingToUndo")) (.ref (He.ga K "InvalidPlace")), PySem.W.kitOne K (.ref (He.ga K "NothingToUndo")) (.ref (He.ga K "InvalidSign")), PySem.W.kitOne K (.ref (He.ga K "NothingToUndo")) (.ref (He.ga K "InvalidText")), PySem.W.kitOne K (.ref (He.ga K "NothingToUndo")) (.ref (He.ga K "Misfit")), PySem.W.kitOne K (.ref (He.ga K "NothingToUndo")) (.ref (He.ga K "Unlike")), PySem.W.kitOne K (.ref (He.ga K "NothingToUndo")) (.ref (He.ga K "NothingToUndo")), PySem.W.kitOne K (.ref (He.ga K "NothingToUndo")) (.ref (He.ga K "TooMany")), PySem.W.kitOne K (.ref (He.ga K "NothingToUndo")) (.type "ValueError")] = [some false, some false, some false, some false, some false, some false, some false, some false, some false, some false, some false, some false, some false, some false, some false, some true, some false, some true]
  t__law_all_refused : LamX.TabB base mg (He.cT K ("_law_all_refused", none)).1 (He.cT K ("_law_all_refused", none)).2
  t_law : LamX.TabB base mg (He.cT K ("law", none)).1 (He.cT K ("law", none)).2
  tnd : ((tbK K).tabs.map (·.1)).Nodup
theorem hofTab {P : Program} {w : World} {K : PySem.W.Frag} {mg : Str → Option Value} {base : Heap} (z : Fz K mg base) {G : Gx} (hG : G.tb = tbK K) {k j : Nat} {f : Addr} {m : List D → M D} (l0 : Nat) (h : ∀ G2 : Gx, G2.tb = tbK K → G2.hf = some f → HofB P w K mg base k G2 1 m) (hk : k ≤ j) (hl : (tbK K).fns[l0]? = some f) :
    ∀ (G2 : Gx) (l : Nat) (a : Addr) (mf : List D → M D), (if l = l0 then some m else none) = some mf → G.tb.fns[l]? = some a → G2.tb = G.tb → G2.hf = some a → HofB P w K mg base j G2 1 mf := by
  intro G2 l a mf em hf e1 e2
  split at em
  · rename_i e
    cases em
    rw [e, hG, hl] at hf
    cases hf
    exact (h G2 (e1.trans hG) e2).mono hk
  · cases em
theorem roomH_of1 {A : Around} (hr : Room 1 A) : L2H.RoomH 1 A := L2H.roomH_of hr
theorem sc_is_good : FnScope [("value" : Str), ("sign" : Str)] [("value" : Str)] (defScope (topS 21)) := ⟨rfl, rfl, rfl, by decide +kernel, rfl, by decide +kernel, by decide +kernel⟩
def b_is_good : MS := (sRet (vAnd (m1 dIsStr (vr 0)) (vAnd (m2 dLe (mFn (f1 dLen) (mCons (vr 0) mNil)) (cst (.int 5))) (mFn (f1 dAll) (mCons (mComp [1] (.nm 1) (mIt (vr 0)) yes (m2 dIn (vr 1) (mTup (mCons (cst (.str [45])) (mCons (cst (.str [43])) mNil))))) mNil)))))
def m_is_good : List D → M D := runB true 2 1 (b_is_good)
theorem ok_is_good {P : Program} {w : World} {K : PySem.W.Frag} {mg : Str → Option Value} {base : Heap} (z : Fz K mg base) {G : Gx} (hG : G.tb = tbK K) : Cal P w K mg base 1 "is_good" (spM K G 1 (m_is_good)) := by
  obtain ⟨fd, F⟩ := z.d_is_good
  refine ⟨fd, _, ok_def F sc_is_good rfl rfl fun cdv A outer s H E hr => ?_, F.binds fun _ _ _ _ _ _ us hl => match us, hl with | [_], _ => rfl, F.kp, z.m_is_good⟩
  exact (ss_one (st_ret (me_and (me_isi (T := "str") (by rfl) (by kernel_rfl) isi_str z.n_isinstance z.n_str (v_ 0)) (me_and (me_cmp op_le od_le (me_cb call_len cd_len z.n_len (by kernel_rfl) (ma_cons (v_ 0) ma_nil)) (me_gi z.c_MOST_SIGNS) (nomark _)) (me_one (me_cb (cr_all rfl) cd_all z.n_all (by kernel_rfl) (ma_cons (me_comp (own := [("sign", 1)]) rfl sc_is_good.nd (mi_it (v_ 0)) (blkOk_by (by rfl)) (by rfl) (fun _ _ _ _ _ => (pn_ 1 sc_is_good.nd)) (fun _ _ _ _ _ => mts_nil) (fun fx _ _ _ _ _ => (me_cmp (op_inA (hu65 hr)) (od_inG false) (v_ 1) (me_tup (ma_cons (me_str (s := [45]) (by rfl) (by rfl)) (ma_cons (me_str (s := [43]) (by rfl) (by rfl)) ma_nil))) (by rfl)))) ma_nil)))))))
theorem sc_need_signs : FnScope [("signs" : Str)] [("signs" : Str)] (defScope (topS 22)) := ⟨rfl, rfl, rfl, by decide +kernel, rfl, by decide +kernel, by decide +kernel⟩
def b_need_signs : MS := (sIf (mNot (mB (mCall 1 m_is_good (mCons (vr 0) mNil)))) (sRaise 0) sNx)
def m_need_signs : List D → M D := runB true 1 1 (b_need_signs)
theorem ok_need_signs {P : Program} {w : World} {K : PySem.W.Frag} {mg : Str → Option Value} {base : Heap} (z : Fz K mg base) {G : Gx} (hG : G.tb = tbK K) : Cal P w K mg base 2 "need_signs" (spM K G 1 (m_need_signs)) := by
  obtain ⟨fd, F⟩ := z.d_need_signs
  refine ⟨fd, _, ok_def F sc_need_signs rfl rfl fun cdv A outer s H E hr => ?_, F.binds fun _ _ _ _ _ _ us hl => match us, hl with | [_], _ => rfl, F.kp, z.m_need_signs⟩
  exact (ss_one (st_if (mt_not (mt_val (me_cal (ok_is_good z hG) hr (by decide) (L2N.takes_of rfl rfl rfl rfl) (ma_cons (v_ 0) ma_nil)))) (ss_one (st_raise rfl (L2N.takes_of rfl rfl rfl rfl) PySem.F.excBase_ValueError z.x_InvalidSigns.1 z.x_InvalidSigns.2.1 z.x_InvalidSigns.2.2.1 (L2.raises_own z.x_InvalidSigns.2.2.2.1 z.x_InvalidSigns.2.2.2.2) (by rw [hG]; rfl))) ss_nil))
theorem sc_text_of : FnScope [("signs" : Str), ("starts" : Str), ("at" : Str), ("end" : Str)] [("signs" : Str)] (defScope (topS 24)) := ⟨rfl, rfl, rfl, by decide +kernel, rfl, by decide +kernel, by decide +kernel⟩
def b_text_of : MS := (sSeq (sIf (mB (m2 dEq (vr 0) (cst (.str [])))) (sRet (cst (.str [48]))) sNx)
  (sSeq (sAsg (m2 dAdd (mComp [2] (.nm 2) (mItL itR1 (mCons (mFn (f1 dLen) (mCons (vr 0) mNil)) mNil)) (mOr (mB (m2 dEq (vr 2) (cst (.int 0)))) (mB (m2 dNe (m2 dIx (vr 0) (vr 2)) (m2 dIx (vr 0) (m2 dSub (vr 2) (cst (.int 1))))))) (vr 2)) (mLst (mCons (mFn (f1 dLen) (mCons (vr 0) mNil)) mNil))) (gNm 1))
  (sRet (mMeth kStr dJoin (cst (.str [])) (mCons (mComp [2, 3] (.tp [2, 3]) (mItL itZip (mCons (vr 1) (mCons (mCut (vr 1) (oAt (cst (.int 1))) oNo) mNil))) yes (m2 dAdd (mFn (f1 dStr1) (mCons (m2 dSub (vr 3) (vr 2)) mNil)) (m2 dIx (vr 0) (vr 2)))) mNil)))))
def m_text_of : List D → M D := runB true 4 1 (b_text_of)
theorem ok_text_of {P : Program} {w : World} {K : PySem.W.Frag} {mg : Str → Option Value} {base : Heap} (z : Fz K mg base) {G : Gx} (hG : G.tb = tbK K) : Cal P w K mg base 1 "text_of" (spM K G 1 (m_text_of)) := by
  obtain ⟨fd, F⟩ := z.d_text_of
  refine ⟨fd, _, ok_def F sc_text_of rfl rfl fun cdv A outer s H E hr => ?_, F.binds fun _ _ _ _ _ _ us hl => match us, hl with | [_], _ => rfl, F.kp, z.m_text_of⟩
  exact (ss_cons (st_if (mt_cmp (op_eqD (hu64 hr)) od_eq (v_ 0) (me_str (s := []) (by rfl) (by rfl)) (nomark _)) (ss_one (st_ret (me_str (s := [48]) (by rfl) (by rfl)))) ss_nil)
    (ss_cons (st_asg (me_op op_addD od_add (me_comp (own := [("at", 2)]) rfl sc_text_of.nd (mi_range1 z.n_range (ma_cons (me_cb call_len cd_len z.n_len (by kernel_rfl) (ma_cons (v_ 0) ma_nil)) ma_nil)) (blkOk_by (by rfl)) (by rfl) (fun _ _ _ _ _ => (pn_ 2 sc_text_of.nd)) (fun _ _ _ _ _ => (mts_one fun fx => (mt_w (mw_or (mt_cmp (op_eqD (hu64 hr)) od_eq (v_ 2) me_int (nomark _)) (mw_or1 (mt_cmp (op_neD (hu64 hr)) od_ne (me_ix (v_ 0) (v_ 2)) (me_ix (v_ 0) (me_op op_sub od_sub (v_ 2) me_int)) (nomark _))))))) (fun fx _ _ _ _ _ => (v_ 2))) (me_lst (ma_cons (me_cb call_len cd_len z.n_len (by kernel_rfl) (ma_cons (v_ 0) ma_nil)) ma_nil))) (g_ 1 sc_text_of.nd))
    (ss_one (st_ret (me_join (me_str (s := []) (by rfl) (by rfl)) (ma_cons (me_comp (own := [("at", 2), ("end", 3)]) rfl sc_text_of.nd (mi_zip z.n_zip (ma_cons (v_ 1) (ma_cons (me_cut (v_ 1) (mo_some me_int) mo_none) ma_nil))) (blkOk_by (by rfl)) (by rfl) (fun _ _ _ _ _ => (pg_tup rfl (pgs_cons (pn_ 2 sc_text_of.nd) (pgs_cons (pn_ 3 sc_text_of.nd) pgs_nil)))) (fun _ _ _ _ _ => mts_nil) (fun fx _ _ _ _ _ => (me_op op_addD od_add (me_ct (L2.CallR.or call_str_int SkE.call_str_str) cd_str z.n_str (by kernel_rfl) (ma_cons (me_op op_sub od_sub (v_ 3) (v_ 2)) ma_nil)) (me_ix (v_ 0) (v_ 2))))) ma_nil))))))
theorem sc_read_in : FnScope [("value" : Str), ("signs" : Str), ("at" : Str)] [("value" : Str)] (defScope (topS 25)) := ⟨rfl, rfl, rfl, by decide +kernel, rfl, by decide +kernel, by decide +kernel⟩
def b_read_in : MS := (sSeq (sIf (mOr (mNot (mB (m1 dIsStr (vr 0)))) (mB (m2 dGt (mFn (f1 dLen) (mCons (vr 0) mNil)) (cst (.int 10))))) (sRet (cst .non)) sNx)
  (sSeq (sIf (mB (m2 dEq (vr 0) (cst (.str [48])))) (sRet (cst (.str []))) sNx)
  (sSeq (sAsg (cst (.str [])) (gNm 1))
  (sSeq (sFor (mItL itR3 (mCons (cst (.int 0)) (mCons (m2 dSub (mFn (f1 dLen) (mCons (vr 0) mNil)) (cst (.int 1))) (mCons (cst (.int 2)) mNil)))) (gNm 2) (sSeq (sIf (mOr (mB (m2 dNotIn (m2 dIx (vr 0) (vr 2)) (cst (.str [49, 50, 51, 52, 53])))) (mB (m2 dNotIn (m2 dIx (vr 0) (m2 dAdd (vr 2) (cst (.int 1)))) (cst (.str [45, 43]))))) (sRet (cst .non)) sNx)
  (sAsg (m2 dAdd (vr 1) (m2 dMulX (m2 dIx (vr 0) (m2 dAdd (vr 2) (cst (.int 1)))) (mFn (f1 dInt1) (mCons (m2 dIx (vr 0) (vr 2)) mNil)))) (gNm 1))))
  (sRet (mIf (mAnd (mB (m2 dNe (vr 1) (cst (.str [])))) (mAnd (mB (mCall 1 m_is_good (mCons (vr 1) mNil))) (mB (m2 dEq (mCall 1 m_text_of (mCons (vr 1) mNil)) (vr 0))))) (vr 1) (cst .non)))))))
def m_read_in : List D → M D := runB true 3 1 (b_read_in)
theorem ok_read_in {P : Program} {w : World} {K : PySem.W.Frag} {mg : Str → Option Value} {base : Heap} (z : Fz K mg base) {G : Gx} (hG : G.tb = tbK K) : Cal P w K mg base 2 "read_in" (spM K G 1 (m_read_in)) := by
  obtain ⟨fd, F⟩ := z.d_read_in
  refine ⟨fd, _, ok_def F sc_read_in rfl rfl fun cdv A outer s H E hr => ?_, F.binds fun _ _ _ _ _ _ us hl => match us, hl with | [_], _ => rfl, F.kp, z.m_read_in⟩
  exact (ss_cons (st_if (mt_w (mw_or (mt_not (mt_val (me_isi (T := "str") (by rfl) (by kernel_rfl) isi_str z.n_isinstance z.n_str (v_ 0)))) (mw_or1 (mt_cmp op_gt od_gt (me_cb call_len cd_len z.n_len (by kernel_rfl) (ma_cons (v_ 0) ma_nil)) me_int (nomark _))))) (ss_one (st_ret me_non)) ss_nil)
    (ss_cons (st_if (mt_cmp (op_eqD (hu64 hr)) od_eq (v_ 0) (me_str (s := [48]) (by rfl) (by rfl)) (nomark _)) (ss_one (st_ret (me_str (s := []) (by rfl) (by rfl)))) ss_nil)
    (ss_cons (st_asg (me_str (s := []) (by rfl) (by rfl)) (g_ 1 sc_read_in.nd))
    (ss_cons (st_for (L2.passes_of rfl) rfl (mi_range3 z.n_range (ma_cons me_int (ma_cons (me_op op_sub od_sub (me_cb call_len cd_len z.n_len (by kernel_rfl) (ma_cons (v_ 0) ma_nil)) me_int) (ma_cons me_int ma_nil)))) (g_ 2 sc_read_in.nd) (ss_cons (st_if (mt_w (mw_or (mt_cmp (op_notInA (hu65 hr)) (od_inG true) (me_ix (v_ 0) (v_ 2)) (me_str (s := [49, 50, 51, 52, 53]) (by rfl) (by rfl)) (by rfl)) (mw_or1 (mt_cmp (op_notInA (hu65 hr)) (od_inG true) (me_ix (v_ 0) (me_op op_addD od_add (v_ 2) me_int)) (me_str (s := [45, 43]) (by rfl) (by rfl)) (by rfl))))) (ss_one (st_ret me_non)) ss_nil)
    (ss_one (st_asg (me_op op_addD od_add (v_ 1) (me_op op_mulX od_mulX (me_ix (v_ 0) (me_op op_addD od_add (v_ 2) me_int)) (me_ct (L2.CallR.or call_int1 call_int_str) cd_int1 z.n_int (by kernel_rfl) (ma_cons (me_ix (v_ 0) (v_ 2)) ma_nil)))) (g_ 1 sc_read_in.nd)))))
    (ss_one (st_ret (me_ifExp (mt_w (mw_and (mt_cmp (op_neD (hu64 hr)) od_ne (v_ 1) (me_str (s := []) (by rfl) (by rfl)) (nomark _)) (mw_and (mt_val (me_cal (ok_is_good z hG) hr (by decide) (L2N.takes_of rfl rfl rfl rfl) (ma_cons (v_ 1) ma_nil))) (mw_and1 (mt_cmp (op_eqD (hu64 hr)) od_eq (me_cal (ok_text_of z hG) hr (by decide) (L2N.takes_of rfl rfl rfl rfl) (ma_cons (v_ 1) ma_nil)) (v_ 0) (nomark _)))))) (v_ 1) me_non)))))))
theorem sc_signs_text : FnScope [("signs" : Str)] [("signs" : Str)] (defScope (topS 26)) := ⟨rfl, rfl, rfl, by decide +kernel, rfl, by decide +kernel, by decide +kernel⟩
def b_signs_text : MS := (sSeq (sExpr (mCall 1 m_need_signs (mCons (vr 0) mNil)))
  (sRet (mCall 1 m_text_of (mCons (vr 0) mNil))))
def m_signs_text : List D → M D := runB true 1 1 (b_signs_text)
theorem ok_signs_text {P : Program} {w : World} {K : PySem.W.Frag} {mg : Str → Option Value} {base : Heap} (z : Fz K mg base) {G : Gx} (hG : G.tb = tbK K) : Cal P w K mg base 3 "signs_text" (spM K G 1 (m_signs_text)) := by
  obtain ⟨fd, F⟩ := z.d_signs_text
  refine ⟨fd, _, ok_def F sc_signs_text rfl rfl fun cdv A outer s H E hr => ?_, F.binds fun _ _ _ _ _ _ us hl => match us, hl with | [_], _ => rfl, F.kp, z.m_signs_text⟩
  exact (ss_cons (st_expr (me_cal (ok_need_signs z hG) hr (by decide) (L2N.takes_of rfl rfl rfl rfl) (ma_cons (v_ 0) ma_nil)))
    (ss_one (st_ret (me_cal (ok_text_of z hG) hr (by decide) (L2N.takes_of rfl rfl rfl rfl) (ma_cons (v_ 0) ma_nil)))))
theorem sc_read_signs : FnScope [("value" : Str), ("found" : Str)] [("value" : Str)] (defScope (topS 27)) := ⟨rfl, rfl, rfl, by decide +kernel, rfl, by decide +kernel, by decide +kernel⟩
def b_read_signs : MS := (sSeq (sAsg (mCall 1 m_read_in (mCons (vr 0) mNil)) (gNm 1))
  (sSeq (sIf (mB (m1 dIsN (vr 1))) (sRaise 12) sNx)
  (sRet (vr 1))))
def m_read_signs : List D → M D := runB true 2 1 (b_read_signs)
theorem ok_read_signs {P : Program} {w : World} {K : PySem.W.Frag} {mg : Str → Option Value} {base : Heap} (z : Fz K mg base) {G : Gx} (hG : G.tb = tbK K) : Cal P w K mg base 3 "read_signs" (spM K G 1 (m_read_signs)) := by
  obtain ⟨fd, F⟩ := z.d_read_signs
  refine ⟨fd, _, ok_def F sc_read_signs rfl rfl fun cdv A outer s H E hr => ?_, F.binds fun _ _ _ _ _ _ us hl => match us, hl with | [_], _ => rfl, F.kp, z.m_read_signs⟩
  exact (ss_cons (st_asg (me_cal (ok_read_in z hG) hr (by decide) (L2N.takes_of rfl rfl rfl rfl) (ma_cons (v_ 0) ma_nil)) (g_ 1 sc_read_signs.nd))
    (ss_cons (st_if (mt_isN (v_ 1)) (ss_one (st_raise rfl (L2N.takes_of rfl rfl rfl rfl) PySem.F.excBase_ValueError z.x_InvalidText.1 z.x_InvalidText.2.1 z.x_InvalidText.2.2.1 (L2.raises_own z.x_InvalidText.2.2.2.1 z.x_InvalidText.2.2.2.2) (by rw [hG]; rfl))) ss_nil)
    (ss_one (st_ret (v_ 1)))))
theorem sc__law_vat : FnScope [("script" : Str), ("k" : Str), ("cell" : Str)] [("script" : Str), ("k" : Str)] (defScope (topS 29)) := ⟨rfl, rfl, rfl, by decide +kernel, rfl, by decide +kernel, by decide +kernel⟩
def b__law_vat : MS := (sSeq (sAsg (m2 dAdd (m2 dMulX (cst (.int 7919)) (vr 1)) (cst (.int 43))) (gNm 2))
  (sSeq (sIf (mB (m2 dLt (vr 1) (mFn (f1 dLen) (mCons (vr 0) mNil)))) (sAsg (mFn (f1 dAbs) (mCons (mFn (f1 dInt1) (mCons (m2 dIx (vr 0) (vr 1)) mNil)) mNil)) (gNm 2)) sNx)
  (sRet (mCel (mCons (mIf (mB (m2 dGe (vr 2) (m2 dPow (cst (.int 10)) (cst (.int 18))))) (vr 2) (cst (.int 0))) (mCons (m2 dAdd (m2 dMod (mFn (f1 dInt1) (mCons (m2 dAdd (m2 dAdd (m2 dMulX (vr 2) (cst (.int 131071))) (m2 dMulX (cst (.int 8191)) (vr 1))) (cst (.int 5))) mNil)) (cst (.int 2147483629))) (cst (.int 1))) mNil))))))
def m__law_vat : List D → M D := runB false 3 2 (b__law_vat)
theorem ok__law_vat {P : Program} {w : World} {K : PySem.W.Frag} {mg : Str → Option Value} {base : Heap} (z : Fz K mg base) {G : Gx} (hG : G.tb = tbK K) : Cal P w K mg base 1 "_law_vat" (spM K G 2 (m__law_vat)) := by
  obtain ⟨fd, F⟩ := z.d__law_vat
  refine ⟨fd, _, ok_def F sc__law_vat rfl rfl fun cdv A outer s H E hr => ?_, F.binds fun _ _ _ _ _ _ us hl => match us, hl with | [_, _], _ => rfl, F.kp, z.m__law_vat⟩
  exact (ss_cons (st_asg (me_op op_addD od_add (me_op op_mulX od_mulX me_int (v_ 1)) me_int) (g_ 2 sc__law_vat.nd))
    (ss_cons (st_if (mt_cmp op_lt od_lt (v_ 1) (me_cb call_len cd_len z.n_len (by kernel_rfl) (ma_cons (v_ 0) ma_nil)) (nomark _)) (ss_one (st_asg (me_cb call_abs cd_abs z.n_abs (by kernel_rfl) (ma_cons (me_ct (L2.CallR.or call_int1 call_int_str) cd_int1 z.n_int (by kernel_rfl) (ma_cons (me_ix (v_ 0) (v_ 1)) ma_nil)) ma_nil)) (g_ 2 sc__law_vat.nd))) ss_nil)
    (ss_one (st_ret (me_cel (ma_cons (me_ifExp (mt_cmp op_ge od_ge (v_ 2) (me_op op_pow od_pow me_int me_int) (nomark _)) (v_ 2) me_int) (ma_cons (me_op op_addD od_add (me_op op_mod od_mod (me_ct (L2.CallR.or call_int1 call_int_str) cd_int1 z.n_int (by kernel_rfl) (ma_cons (me_op op_addD od_add (me_op op_addD od_add (me_op op_mulX od_mulX (v_ 2) me_int) (me_op op_mulX od_mulX me_int (v_ 1))) me_int) ma_nil)) me_int) me_int) ma_nil)))))))
theorem sc__law_under : FnScope [("vat" : Str), ("many" : Str), ("wide" : Str), ("found" : Str)] [("vat" : Str), ("many" : Str)] (defScope (topS 30)) := ⟨rfl, rfl, rfl, by decide +kernel, rfl, by decide +kernel, by decide +kernel⟩
def b__law_under : MS := (sSeq (sIf (mB (m2 dGt (m2 dIx (vr 0) (cst (.int 0))) (cst (.int 0)))) (sSeq (sAsg (m2 dMod (mFn (f1 dInt1) (mCons (m2 dIx (vr 0) (cst (.int 0))) mNil)) (vr 1)) (gNm 3))
  (sSeq (sAsg (m2 dFdiv (m2 dIx (vr 0) (cst (.int 0))) (vr 1)) (gSubX (vr 0) (cst (.int 0))))
  (sRet (vr 3)))) sNx)
  (sSeq (sAsg (m2 dMod (mFn (f1 dInt1) (mCons (m2 dAdd (m2 dMulX (m2 dIx (vr 0) (cst (.int 1))) (cst (.int 39373))) (cst (.int 101))) mNil)) (cst (.int 2147483629))) (gSubX (vr 0) (cst (.int 1))))
  (sSeq (sAsg (m2 dMod (mFn (f1 dInt1) (mCons (m2 dMulX (m2 dIx (vr 0) (cst (.int 1))) (m2 dAdd (m2 dFdiv (m2 dIx (vr 0) (cst (.int 1))) (cst (.int 5))) (cst (.int 9)))) mNil)) (cst (.int 2147483587))) (gNm 2))
  (sRet (m2 dMod (mFn (f1 dInt1) (mCons (m2 dFdiv (vr 2) (cst (.int 32))) mNil)) (vr 1))))))
def m__law_under : List D → M D := runB true 4 2 (b__law_under)
theorem ok__law_under {P : Program} {w : World} {K : PySem.W.Frag} {mg : Str → Option Value} {base : Heap} (z : Fz K mg base) {G : Gx} (hG : G.tb = tbK K) : Cal P w K mg base 1 "_law_under" (spM K G 2 (m__law_under)) := by
  obtain ⟨fd, F⟩ := z.d__law_under
  refine ⟨fd, _, ok_def F sc__law_under rfl rfl fun cdv A outer s H E hr => ?_, F.binds fun _ _ _ _ _ _ us hl => match us, hl with | [_, _], _ => rfl, F.kp, z.m__law_under⟩
  exact (ss_cons (st_if (mt_cmp op_gt od_gt (me_ix (v_ 0) me_int) me_int (nomark _)) (ss_cons (st_asg (me_op op_mod od_mod (me_ct (L2.CallR.or call_int1 call_int_str) cd_int1 z.n_int (by kernel_rfl) (ma_cons (me_ix (v_ 0) me_int) ma_nil)) (v_ 1)) (g_ 3 sc__law_under.nd))
    (ss_cons (st_asg (me_op op_fdivW od_fdiv (me_ix (v_ 0) me_int) (v_ 1)) (gt_subX (W := W0) (hu1 hr) (v_ 0) me_int))
    (ss_one (st_ret (v_ 3))))) ss_nil)
    (ss_cons (st_asg (me_op op_mod od_mod (me_ct (L2.CallR.or call_int1 call_int_str) cd_int1 z.n_int (by kernel_rfl) (ma_cons (me_op op_addD od_add (me_op op_mulX od_mulX (me_ix (v_ 0) me_int) me_int) me_int) ma_nil)) me_int) (gt_subX (W := W0) (hu1 hr) (v_ 0) me_int))
    (ss_cons (st_asg (me_op op_mod od_mod (me_ct (L2.CallR.or call_int1 call_int_str) cd_int1 z.n_int (by kernel_rfl) (ma_cons (me_op op_mulX od_mulX (me_ix (v_ 0) me_int) (me_op op_addD od_add (me_op op_fdivW od_fdiv (me_ix (v_ 0) me_int) me_int) me_int)) ma_nil)) me_int) (g_ 2 sc__law_under.nd))
    (ss_one (st_ret (me_op op_mod od_mod (me_ct (L2.CallR.or call_int1 call_int_str) cd_int1 z.n_int (by kernel_rfl) (ma_cons (me_op op_fdivW od_fdiv (v_ 2) me_int) ma_nil)) (v_ 1)))))))
theorem sc__law_some : FnScope [("vat" : Str), ("things" : Str)] [("vat" : Str), ("things" : Str)] (defScope (topS 31)) := ⟨rfl, rfl, rfl, by decide +kernel, rfl, by decide +kernel, by decide +kernel⟩
def b__law_some : MS := (sRet (m2 dIx (vr 1) (mCall 2 m__law_under (mCons (vr 0) (mCons (mFn (f1 dLen) (mCons (vr 1) mNil)) mNil)))))
def m__law_some : List D → M D := runB true 2 2 (b__law_some)
theorem ok__law_some {P : Program} {w : World} {K : PySem.W.Frag} {mg : Str → Option Value} {base : Heap} (z : Fz K mg base) {G : Gx} (hG : G.tb = tbK K) : Cal P w K mg base 2 "_law_some" (spM K G 2 (m__law_some)) := by
  obtain ⟨fd, F⟩ := z.d__law_some
  refine ⟨fd, _, ok_def F sc__law_some rfl rfl fun cdv A outer s H E hr => ?_, F.binds fun _ _ _ _ _ _ us hl => match us, hl with | [_, _], _ => rfl, F.kp, z.m__law_some⟩
  exact (ss_one (st_ret (me_ix (v_ 1) (me_cal (ok__law_under z hG) hr (by decide) (L2N.takes_of rfl rfl rfl rfl) (ma_cons (v_ 0) (ma_cons (me_cb call_len cd_len z.n_len (by kernel_rfl) (ma_cons (v_ 1) ma_nil)) ma_nil))))))
theorem sc__law_every : FnScope [("steps_so" : Str), ("found" : Str), ("turn" : Str), ("later" : Str), ("signs_so" : Str)] [("steps_so" : Str)] (defScope (topS 32)) := ⟨rfl, rfl, rfl, by decide +kernel, rfl, by decide +kernel, by decide +kernel⟩
def b__law_every : MS := (sSeq (sAsg (mLst (mCons (cst (.str [])) mNil)) (gNm 1))
  (sSeq (sFor (mItL itR1 (mCons (vr 0) mNil)) (gNm 2) (sSeq (sAsg (mLst mNil) (gNm 3))
  (sSeq (sFor (mIt (vr 1)) (gNm 4) (sAsg (m2 dAdd (vr 3) (mLst (mCons (m2 dAdd (vr 4) (cst (.str [45]))) (mCons (m2 dAdd (vr 4) (cst (.str [43]))) mNil)))) (gNm 3)))
  (sAsg (vr 3) (gNm 1)))))
  (sRet (vr 1))))
def m__law_every : List D → M D := runB true 5 1 (b__law_every)
theorem ok__law_every {P : Program} {w : World} {K : PySem.W.Frag} {mg : Str → Option Value} {base : Heap} (z : Fz K mg base) {G : Gx} (hG : G.tb = tbK K) : Cal P w K mg base 1 "_law_every" (spM K G 1 (m__law_every)) := by
  obtain ⟨fd, F⟩ := z.d__law_every
  refine ⟨fd, _, ok_def F sc__law_every rfl rfl fun cdv A outer s H E hr => ?_, F.binds fun _ _ _ _ _ _ us hl => match us, hl with | [_], _ => rfl, F.kp, z.m__law_every⟩
  exact (ss_cons (st_asg (me_lst (ma_cons (me_str (s := []) (by rfl) (by rfl)) ma_nil)) (g_ 1 sc__law_every.nd))
    (ss_cons (st_for (L2.passes_of rfl) rfl (mi_range1 z.n_range (ma_cons (v_ 0) ma_nil)) (g_ 2 sc__law_every.nd) (ss_cons (st_asg (me_lst ma_nil) (g_ 3 sc__law_every.nd))
    (ss_cons (st_for (L2.passes_of rfl) rfl (mi_it (v_ 1)) (g_ 4 sc__law_every.nd) (ss_one (st_asg (me_op op_addD od_add (v_ 3) (me_lst (ma_cons (me_op op_addD od_add (v_ 4) (me_str (s := [45]) (by rfl) (by rfl))) (ma_cons (me_op op_addD od_add (v_ 4) (me_str (s := [43]) (by rfl) (by rfl))) ma_nil)))) (g_ 3 sc__law_every.nd))))
    (ss_one (st_asg (v_ 3) (g_ 1 sc__law_every.nd))))))
    (ss_one (st_ret (v_ 1)))))
theorem sc__law_signs : FnScope [("vat" : Str), ("most" : Str), ("turn" : Str)] [("vat" : Str), ("most" : Str)] (defScope (topS 33)) := ⟨rfl, rfl, rfl, by decide +kernel, rfl, by decide +kernel, by decide +kernel⟩
def b__law_signs : MS := (sRet (mMeth kStr dJoin (cst (.str [])) (mCons (mComp [2] (.nm 2) (mItL itR1 (mCons (mCall 2 m__law_under (mCons (vr 0) (mCons (m2 dAdd (vr 1) (cst (.int 1))) mNil))) mNil)) yes (mCall 2 m__law_some (mCons (vr 0) (mCons (mLst (mCons (cst (.str [45])) (mCons (cst (.str [43])) mNil))) mNil)))) mNil)))
def m__law_signs : List D → M D := runB true 3 2 (b__law_signs)
theorem ok__law_signs {P : Program} {w : World} {K : PySem.W.Frag} {mg : Str → Option Value} {base : Heap} (z : Fz K mg base) {G : Gx} (hG : G.tb = tbK K) : Cal P w K mg base 3 "_law_signs" (spM K G 2 (m__law_signs)) := by
  obtain ⟨fd, F⟩ := z.d__law_signs
  refine ⟨fd, _, ok_def F sc__law_signs rfl rfl fun cdv A outer s H E hr => ?_, F.binds fun _ _ _ _ _ _ us hl => match us, hl with | [_, _], _ => rfl, F.kp, z.m__law_signs⟩
  exact (ss_one (st_ret (me_join (me_str (s := []) (by rfl) (by rfl)) (ma_cons (me_comp (own := [("turn", 2)]) rfl sc__law_signs.nd (mi_range1 z.n_range (ma_cons (me_cal (ok__law_under z hG) hr (by decide) (L2N.takes_of rfl rfl rfl rfl) (ma_cons (v_ 0) (ma_cons (me_op op_addD od_add (v_ 1) me_int) ma_nil))) ma_nil)) (blkOk_by (by rfl)) (by rfl) (fun _ _ _ _ _ => (pn_ 2 sc__law_signs.nd)) (fun _ _ _ _ _ => mts_nil) (fun fx _ _ _ _ _ => (me_cal (ok__law_some z hG) hr (by decide) takesN (ma_cons (v_ 0) (ma_cons (me_lst (ma_cons (me_str (s := [45]) (by rfl) (by rfl)) (ma_cons (me_str (s := [43]) (by rfl) (by rfl)) ma_nil))) ma_nil))))) ma_nil))))
theorem sc__law_names : FnScope [("e" : Str), ("some" : Str), ("labels" : Str), ("label" : Str), ("good" : Str)] [("e" : Str)] (defScope (topS 34)) := ⟨rfl, rfl, rfl, by decide +kernel, rfl, by decide +kernel, by decide +kernel⟩
structure KitR (K : PySem.W.Frag) (D : Addr) (b_InvalidSigns b_InvalidChance b_InvalidNumber b_InvalidCode b_InvalidData b_InvalidSeen b_InvalidLost b_InvalidTable b_InvalidFacts b_InvalidShare b_InvalidPlace b_InvalidSign b_InvalidText b_Misfit b_Unlike b_NothingToUndo b_TooMany b_ValueError : Bool) : Prop where
  c_InvalidSigns : PySem.W.kitOne K (.ref D) (.ref (He.ga K "InvalidSigns")) = some b_InvalidSigns
  c_InvalidChance : PySem.W.kitOne K (.ref D) (.ref (He.ga K "InvalidChance")) = some b_InvalidChance
  c_InvalidNumber : PySem.W.kitOne K (.ref D) (.ref (He.ga K "InvalidNumber")) = some b_InvalidNumber
  c_InvalidCode : PySem.W.kitOne K (.ref D) (.ref (He.ga K "InvalidCode")) = some b_InvalidCode
  c_InvalidData : PySem.W.kitOne K (.ref D) (.ref (He.ga K "InvalidData")) = some b_InvalidData
  c_InvalidSeen : PySem.W.kitOne K (.ref D) (.ref (He.ga K "InvalidSeen")) = some b_InvalidSeen
  c_InvalidLost : PySem.W.kitOne K (.ref D) (.ref (He.ga K "InvalidLost")) = some b_InvalidLost
  c_InvalidTable : PySem.W.kitOne K (.ref D) (.ref (He.ga K "InvalidTable")) = some b_InvalidTable
  c_InvalidFacts : PySem.W.kitOne K (.ref D) (.ref (He.ga K "InvalidFacts")) = some b_InvalidFacts
  c_InvalidShare : PySem.W.kitOne K (.ref D) (.ref (He.ga K "InvalidShare")) = some b_InvalidShare
  c_InvalidPlace : PySem.W.kitOne K (.ref D) (.ref (He.ga K "InvalidPlace")) = some b_InvalidPlace
  c_InvalidSign : PySem.W.kitOne K (.ref D) (.ref (He.ga K "InvalidSign")) = some b_InvalidSign
  c_InvalidText : PySem.W.kitOne K (.ref D) (.ref (He.ga K "InvalidText")) = some b_InvalidText
  c_Misfit : PySem.W.kitOne K (.ref D) (.ref (He.ga K "Misfit")) = some b_Misfit
  c_Unlike : PySem.W.kitOne K (.ref D) (.ref (He.ga K "Unlike")) = some b_Unlike
  c_NothingToUndo : PySem.W.kitOne K (.ref D) (.ref (He.ga K "NothingToUndo")) = some b_NothingToUndo
  c_TooMany : PySem.W.kitOne K (.ref D) (.ref (He.ga K "TooMany")) = some b_TooMany
  ty : PySem.W.kitOne K (.ref D) (.type "ValueError") = some b_ValueError
theorem names_ok {P : Program} {w : World} {K : PySem.W.Frag} {mg : Str → Option Value} {base : Heap} (z : Fz K mg base) {D : Addr} {b_InvalidSigns b_InvalidChance b_InvalidNumber b_InvalidCode b_InvalidData b_InvalidSeen b_InvalidLost b_InvalidTable b_InvalidFacts b_InvalidShare b_InvalidPlace b_InvalidSign b_InvalidText b_Misfit b_Unlike b_NothingToUndo b_TooMany b_ValueError : Bool} (C : ExcC K D) (q : KitR K D b_InvalidSigns b_InvalidChance b_InvalidNumber b_InvalidCode b_InvalidData b_InvalidSeen b_InvalidLost b_InvalidTable b_InvalidFacts b_InvalidShare b_InvalidPlace b_InvalidSign b_InvalidText b_Misfit b_Unlike b_NothingToUndo b_TooMany b_ValueError)
    (hz : ((HN.sel (Txt.split "signs chance number code data seen lost table facts share place sign text misfit unlike undo many value" " ") [b_InvalidSigns, b_InvalidChance, b_InvalidNumber, b_InvalidCode, b_InvalidData, b_InvalidSeen, b_InvalidLost, b_InvalidTable, b_InvalidFacts, b_InvalidShare, b_InvalidPlace, b_InvalidSign, b_InvalidText, b_Misfit, b_Unlike, b_NothingToUndo, b_TooMany, b_ValueError]).map (·.length)).sum + (HN.sel (Txt.split "signs chance number code data seen lost table facts share place sign text misfit unlike undo many value" " ") [b_InvalidSigns, b_InvalidChance, b_InvalidNumber, b_InvalidCode, b_InvalidData, b_InvalidSeen, b_InvalidLost, b_InvalidTable, b_InvalidFacts, b_InvalidShare, b_InvalidPlace, b_InvalidSign, b_InvalidText, b_Misfit, b_Unlike, b_NothingToUndo, b_TooMany, b_ValueError]).length * (" " : Str).length ≤ 16777216) : NamesC P w K mg base 1 "_law_names" D (HN.namesT [b_InvalidSigns, b_InvalidChance, b_InvalidNumber, b_InvalidCode, b_InvalidData, b_InvalidSeen, b_InvalidLost, b_InvalidTable, b_InvalidFacts, b_InvalidShare, b_InvalidPlace, b_InvalidSign, b_InvalidText, b_Misfit, b_Unlike, b_NothingToUndo, b_TooMany, b_ValueError] "signs chance number code data seen lost table facts share place sign text misfit unlike undo many value" " ") := by
  obtain ⟨fd, F⟩ := z.d__law_names
  refine names_mk F sc__law_names z.m__law_names (F.binds fun _ _ _ _ _ _ us hl => match us, hl with | [_], _ => rfl) rfl (by decide +kernel) (by decide +kernel) (by show _ = 18; decide +kernel) (by show 18 ≤ 1000; decide) hz fun cdv A outer s H E p hot zc fl hr => ?_
  have hE := HN.isE_at (Y := L2H.cxH (L2N.CX P w) P w K mg base [("e" : Str), ("some" : Str), ("labels" : Str), ("label" : Str), ("good" : Str)] "_law_names" (defScope (topS 34)) (He.ga K "_law_names") cdv A outer s H E p) (p := p) List.mem_cons_self C zc fl
  exact pss_cons (ps_asg (pe_lst (HN.nb_ref hE z.n_isinstance z.m_InvalidSigns (q.c_InvalidSigns) (HN.nb_ref hE z.n_isinstance z.m_InvalidChance (q.c_InvalidChance) (HN.nb_ref hE z.n_isinstance z.m_InvalidNumber (q.c_InvalidNumber) (HN.nb_ref hE z.n_isinstance z.m_InvalidCode (q.c_InvalidCode) (HN.nb_ref hE z.n_isinstance z.m_InvalidData (q.c_InvalidData) (HN.nb_ref hE z.n_isinstance z.m_InvalidSeen (q.c_InvalidSeen) (HN.nb_ref hE z.n_isinstance z.m_InvalidLost (q.c_InvalidLost) (HN.nb_ref hE z.n_isinstance z.m_InvalidTable (q.c_InvalidTable) (HN.nb_ref hE z.n_isinstance z.m_InvalidFacts (q.c_InvalidFacts) (HN.nb_ref hE z.n_isinstance z.m_InvalidShare (q.c_InvalidShare) (HN.nb_ref hE z.n_isinstance z.m_InvalidPlace (q.c_InvalidPlace) (HN.nb_ref hE z.n_isinstance z.m_InvalidSign (q.c_InvalidSign) (HN.nb_ref hE z.n_isinstance z.m_InvalidText (q.c_InvalidText) (HN.nb_ref hE z.n_isinstance z.m_Misfit (q.c_Misfit) (HN.nb_ref hE z.n_isinstance z.m_Unlike (q.c_Unlike) (HN.nb_ref hE z.n_isinstance z.m_NothingToUndo (q.c_NothingToUndo) (HN.nb_ref hE z.n_isinstance z.m_TooMany (q.c_TooMany) (HN.nb_ty hE z.n_isinstance z.n_ValueError (by kernel_rfl) (q.ty) HN.nb_nil))))))))))))))))))) (pn_ 1 sc__law_names.nd)) (pss_cons (ps_asg pe_str (pn_ 2 sc__law_names.nd)) (pss_one (ps_ret (pe_join pe_str (HN.names_comp (p := p) List.mem_cons_self hot sc__law_names.nd rfl rfl (blkOk_by (by rfl)) (pa_cons (pe_split (pv 2) pe_str) (pa_cons (pv 1) pa_nil)) (by rfl) z.n_zip (by rfl) (by rfl) (by intro _; rfl)
    (fun _ _ _ _ _ => pgs_cons (pn_ 3 sc__law_names.nd) (pgs_cons (pn_ 4 sc__law_names.nd) pgs_nil)) (fun _ _ => ⟨rfl, rfl⟩) (fun _ _ _ _ _ => HN.pt_good (pv 4)) (fun _ _ _ _ _ => pv 3))))))
def nmT : Nat → List Nat
  | 0 => [115, 105, 103, 110, 115, 32, 118, 97, 108, 117, 101]
  | 1 => [99, 104, 97, 110, 99, 101, 32, 118, 97, 108, 117, 101]
  | 2 => [110, 117, 109, 98, 101, 114, 32, 118, 97, 108, 117, 101]
  | 3 => [99, 111, 100, 101, 32, 118, 97, 108, 117, 101]
  | 4 => [100, 97, 116, 97, 32, 118, 97, 108, 117, 101]
  | 5 => [115, 101, 101, 110, 32, 118, 97, 108, 117, 101]
  | 6 => [108, 111, 115, 116, 32, 118, 97, 108, 117, 101]
  | 7 => [116, 97, 98, 108, 101, 32, 118, 97, 108, 117, 101]
  | 8 => [102, 97, 99, 116, 115, 32, 118, 97, 108, 117, 101]
  | 9 => [115, 104, 97, 114, 101, 32, 118, 97, 108, 117, 101]
  | 10 => [112, 108, 97, 99, 101, 32, 118, 97, 108, 117, 101]
  | 11 => [115, 105, 103, 110, 32, 118, 97, 108, 117, 101]
  | 12 => [116, 101, 120, 116, 32, 118, 97, 108, 117, 101]
  | 13 => [109, 105, 115, 102, 105, 116, 32, 118, 97, 108, 117, 101]
  | 14 => [117, 110, 108, 105, 107, 101, 32, 118, 97, 108, 117, 101]
  | 15 => [117, 110, 100, 111, 32, 118, 97, 108, 117, 101]
  | _ => []
theorem nm_ok : ∀ j, j < 16 → ((nmT j).all fun c => decide (c < 0x110000)) = true
  | 0, _ => rfl
  | 1, _ => rfl
  | 2, _ => rfl
  | 3, _ => rfl
  | 4, _ => rfl
  | 5, _ => rfl
  | 6, _ => rfl
  | 7, _ => rfl
  | 8, _ => rfl
  | 9, _ => rfl
  | 10, _ => rfl
  | 11, _ => rfl
  | 12, _ => rfl
  | 13, _ => rfl
  | 14, _ => rfl
  | 15, _ => rfl
  | n + 16, h => by omega
def nmR : Nat → List Bool
  | 0 => [true, false, false, false, false, false, false, false, false, false, false, false, false, false, false, false, false, true]
  | 1 => [false, true, false, false, false, false, false, false, false, false, false, false, false, false, false, false, false, true]
  | 2 => [false, false, true, false, false, false, false, false, false, false, false, false, false, false, false, false, false, true]
  | 3 => [false, false, false, true, false, false, false, false, false, false, false, false, false, false, false, false, false, true]
  | 4 => [false, false, false, false, true, false, false, false, false, false, false, false, false, false, false, false, false, true]
  | 5 => [false, false, false, false, false, true, false, false, false, false, false, false, false, false, false, false, false, true]
  | 6 => [false, false, false, false, false, false, true, false, false, false, false, false, false, false, false, false, false, true]
  | 7 => [false, false, false, false, false, false, false, true, false, false, false, false, false, false, false, false, false, true]
  | 8 => [false, false, false, false, false, false, false, false, true, false, false, false, false, false, false, false, false, true]
  | 9 => [false, false, false, false, false, false, false, false, false, true, false, false, false, false, false, false, false, true]
  | 10 => [false, false, false, false, false, false, false, false, false, false, true, false, false, false, false, false, false, true]
  | 11 => [false, false, false, false, false, false, false, false, false, false, false, true, false, false, false, false, false, true]
  | 12 => [false, false, false, false, false, false, false, false, false, false, false, false, true, false, false, false, false, true]
  | 13 => [false, false, false, false, false, false, false, false, false, false, false, false, false, true, false, false, false, true]
  | 14 => [false, false, false, false, false, false, false, false, false, false, false, false, false, false, true, false, false, true]
  | 15 => [false, false, false, false, false, false, false, false, false, false, false, false, false, false, false, true, false, true]
  | _ => []
theorem nm_text : ∀ j, j < 16 → HN.namesT (nmR j) "signs chance number code data seen lost table facts share place sign text misfit unlike undo many value" " " = ⟨(nmT j).toArray⟩
  | 0, _ => by decide +kernel
  | 1, _ => by decide +kernel
  | 2, _ => by decide +kernel
  | 3, _ => by decide +kernel
  | 4, _ => by decide +kernel
  | 5, _ => by decide +kernel
  | 6, _ => by decide +kernel
  | 7, _ => by decide +kernel
  | 8, _ => by decide +kernel
  | 9, _ => by decide +kernel
  | 10, _ => by decide +kernel
  | 11, _ => by decide +kernel
  | 12, _ => by decide +kernel
  | 13, _ => by decide +kernel
  | 14, _ => by decide +kernel
  | 15, _ => by decide +kernel
  | n + 16, h => by omega
theorem namesC {P : Program} {w : World} {K : PySem.W.Frag} {mg : Str → Option Value} {base : Heap} (z : Fz K mg base) : ∀ j, j < 16 → NamesC P w K mg base 1 "_law_names" ((tbK K).exs j) (HN.namesT (nmR j) "signs chance number code data seen lost table facts share place sign text misfit unlike undo many value" " ")
  | 0, _ => by
    obtain ⟨C, q⟩ := z.q_InvalidSigns
    simp only [List.cons.injEq, and_true] at q
    obtain ⟨q0, q1, q2, q3, q4, q5, q6, q7, q8, q9, q10, q11, q12, q13, q14, q15, q16, q17⟩ := q
    exact names_ok z C ⟨q0, q1, q2, q3, q4, q5, q6, q7, q8, q9, q10, q11, q12, q13, q14, q15, q16, q17⟩ (by decide +kernel)
  | 1, _ => by
    obtain ⟨C, q⟩ := z.q_InvalidChance
    simp only [List.cons.injEq, and_true] at q
    obtain ⟨q0, q1, q2, q3, q4, q5, q6, q7, q8, q9, q10, q11, q12, q13, q14, q15, q16, q17⟩ := q
    exact names_ok z C ⟨q0, q1, q2, q3, q4, q5, q6, q7, q8, q9, q10, q11, q12, q13, q14, q15, q16, q17⟩ (by decide +kernel)
  | 2, _ => by
    obtain ⟨C, q⟩ := z.q_InvalidNumber
    simp only [List.cons.injEq, and_true] at q
    obtain ⟨q0, q1, q2, q3, q4, q5, q6, q7, q8, q9, q10, q11, q12, q13, q14, q15, q16, q17⟩ := q
    exact names_ok z C ⟨q0, q1, q2, q3, q4, q5, q6, q7, q8, q9, q10, q11, q12, q13, q14, q15, q16, q17⟩ (by decide +kernel)
  | 3, _ => by
    obtain ⟨C, q⟩ := z.q_InvalidCode
    simp only [List.cons.injEq, and_true] at q
    obtain ⟨q0, q1, q2, q3, q4, q5, q6, q7, q8, q9, q10, q11, q12, q13, q14, q15, q16, q17⟩ := q
    exact names_ok z C ⟨q0, q1, q2, q3, q4, q5, q6, q7, q8, q9, q10, q11, q12, q13, q14, q15, q16, q17⟩ (by decide +kernel)
  | 4, _ => by
    obtain ⟨C, q⟩ := z.q_InvalidData
    simp only [List.cons.injEq, and_true] at q
    obtain ⟨q0, q1, q2, q3, q4, q5, q6, q7, q8, q9, q10, q11, q12, q13, q14, q15, q16, q17⟩ := q
    exact names_ok z C ⟨q0, q1, q2, q3, q4, q5, q6, q7, q8, q9, q10, q11, q12, q13, q14, q15, q16, q17⟩ (by decide +kernel)
  | 5, _ => by
    obtain ⟨C, q⟩ := z.q_InvalidSeen
    simp only [List.cons.injEq, and_true] at q
    obtain ⟨q0, q1, q2, q3, q4, q5, q6, q7, q8, q9, q10, q11, q12, q13, q14, q15, q16, q17⟩ := q
    exact names_ok z C ⟨q0, q1, q2, q3, q4, q5, q6, q7, q8, q9, q10, q11, q12, q13, q14, q15, q16, q17⟩ (by decide +kernel)
  | 6, _ => by
    obtain ⟨C, q⟩ := z.q_InvalidLost
    simp only [List.cons.injEq, and_true] at q
    obtain ⟨q0, q1, q2, q3, q4, q5, q6, q7, q8, q9, q10, q11, q12, q13, q14, q15, q16, q17⟩ := q
    exact names_ok z C ⟨q0, q1, q2, q3, q4, q5, q6, q7, q8, q9, q10, q11, q12, q13, q14, q15, q16, q17⟩ (by decide +kernel)
  | 7, _ => by
    obtain ⟨C, q⟩ := z.q_InvalidTable
    simp only [List.cons.injEq, and_true] at q
    obtain ⟨q0, q1, q2, q3, q4, q5, q6, q7, q8, q9, q10, q11, q12, q13, q14, q15, q16, q17⟩ := q
    exact names_ok z C ⟨q0, q1, q2, q3, q4, q5, q6, q7, q8, q9, q10, q11, q12, q13, q14, q15, q16, q17⟩ (by decide +kernel)
  | 8, _ => by
    obtain ⟨C, q⟩ := z.q_InvalidFacts
    simp only [List.cons.injEq, and_true] at q
    obtain ⟨q0, q1, q2, q3, q4, q5, q6, q7, q8, q9, q10, q11, q12, q13, q14, q15, q16, q17⟩ := q
    exact names_ok z C ⟨q0, q1, q2, q3, q4, q5, q6, q7, q8, q9, q10, q11, q12, q13, q14, q15, q16, q17⟩ (by decide +kernel)
  | 9, _ => by
    obtain ⟨C, q⟩ := z.q_InvalidShare
    simp only [List.cons.injEq, and_true] at q
    obtain ⟨q0, q1, q2, q3, q4, q5, q6, q7, q8, q9, q10, q11, q12, q13, q14, q15, q16, q17⟩ := q
    exact names_ok z C ⟨q0, q1, q2, q3, q4, q5, q6, q7, q8, q9, q10, q11, q12, q13, q14, q15, q16, q17⟩ (by decide +kernel)
  | 10, _ => by
    obtain ⟨C, q⟩ := z.q_InvalidPlace
    simp only [List.cons.injEq, and_true] at q
    obtain ⟨q0, q1, q2, q3, q4, q5, q6, q7, q8, q9, q10, q11, q12, q13, q14, q15, q16, q17⟩ := q
    exact names_ok z C ⟨q0, q1, q2, q3, q4, q5, q6, q7, q8, q9, q10, q11, q12, q13, q14, q15, q16, q17⟩ (by decide +kernel)
  | 11, _ => by
    obtain ⟨C, q⟩ := z.q_InvalidSign
    simp only [List.cons.injEq, and_true] at q
    obtain ⟨q0, q1, q2, q3, q4, q5, q6, q7, q8, q9, q10, q11, q12, q13, q14, q15, q16, q17⟩ := q
    exact names_ok z C ⟨q0, q1, q2, q3, q4, q5, q6, q7, q8, q9, q10, q11, q12, q13, q14, q15, q16, q17⟩ (by decide +kernel)
  | 12, _ => by
    obtain ⟨C, q⟩ := z.q_InvalidText
    simp only [List.cons.injEq, and_true] at q
    obtain ⟨q0, q1, q2, q3, q4, q5, q6, q7, q8, q9, q10, q11, q12, q13, q14, q15, q16, q17⟩ := q
    exact names_ok z C ⟨q0, q1, q2, q3, q4, q5, q6, q7, q8, q9, q10, q11, q12, q13, q14, q15, q16, q17⟩ (by decide +kernel)
  | 13, _ => by
    obtain ⟨C, q⟩ := z.q_Misfit
    simp only [List.cons.injEq, and_true] at q
    obtain ⟨q0, q1, q2, q3, q4, q5, q6, q7, q8, q9, q10, q11, q12, q13, q14, q15, q16, q17⟩ := q
    exact names_ok z C ⟨q0, q1, q2, q3, q4, q5, q6, q7, q8, q9, q10, q11, q12, q13, q14, q15, q16, q17⟩ (by decide +kernel)
  | 14, _ => by
    obtain ⟨C, q⟩ := z.q_Unlike
    simp only [List.cons.injEq, and_true] at q
    obtain ⟨q0, q1, q2, q3, q4, q5, q6, q7, q8, q9, q10, q11, q12, q13, q14, q15, q16, q17⟩ := q
    exact names_ok z C ⟨q0, q1, q2, q3, q4, q5, q6, q7, q8, q9, q10, q11, q12, q13, q14, q15, q16, q17⟩ (by decide +kernel)
  | 15, _ => by
    obtain ⟨C, q⟩ := z.q_NothingToUndo
    simp only [List.cons.injEq, and_true] at q
    obtain ⟨q0, q1, q2, q3, q4, q5, q6, q7, q8, q9, q10, q11, q12, q13, q14, q15, q16, q17⟩ := q
    exact names_ok z C ⟨q0, q1, q2, q3, q4, q5, q6, q7, q8, q9, q10, q11, q12, q13, q14, q15, q16, q17⟩ (by decide +kernel)
  | n + 16, h => by omega
theorem sc__law_error : FnScope [("call" : Str), ("e" : Str)] [("call" : Str)] (defScope (topS 35)) := ⟨rfl, rfl, rfl, by decide +kernel, rfl, by decide +kernel, by decide +kernel⟩
def b__law_error (act : Env' → M D) : MS := (sSeq (sTry 16 1 (sExpr act) (fun j => D.str (nmT j)))
  (sRet (cst (.str []))))
theorem giv__law_error {P : Program} {w : World} {K : PySem.W.Frag} {mg : Str → Option Value} {base : Heap} (z : Fz K mg base) {k : Nat} (hk : 1 ≤ k) : Gives P w K mg base k "_law_error" "call" [("call" : Str), ("e" : Str)] b__law_error (tbK K) := by
  obtain ⟨fd, F⟩ := z.d__law_error
  refine ⟨topS 35, fd, F, sc__law_error, z.m__law_error, F.binds fun _ _ _ _ _ _ us hl => match us, hl with | [_], _ => rfl, Or.inl rfl, fun cdv A outer s H E G act hr0 hG hact => ?_⟩
  have hr := hr0.mono hk
  exact (ss_cons (st_try (c := He.ga K "SplitError") (i := 1) (nE := 16) (h := (fun j => D.str (nmT j))) rfl rfl sc__law_error.nd rfl (by rfl) ⟨by rfl, by decide, .inl z.m_SplitError⟩ (L2N.takes_of rfl rfl rfl rfl) (fun W2 pn xe tk2 hp2 => (ss_one (st_expr (hact _ _ _ _ _ tk2)))) (fun j hj => by rw [hG]; exact ⟨z.exm j hj, (su_names (i := 1) (ev := "e") (namesC z j hj) (roomH_of1 (hr.mono (j := 1) (by decide))) (nm_text j hj) (nm_ok j hj) (by rfl) (Or.inl rfl))⟩))
    (ss_one (st_ret (me_str (s := []) (by rfl) (by rfl)))))
theorem sc__law_told : FnScope [("call" : Str), ("e" : Str)] [("call" : Str)] (defScope (topS 36)) := ⟨rfl, rfl, rfl, by decide +kernel, rfl, by decide +kernel, by decide +kernel⟩
def b__law_told (act : Env' → M D) : MS := (sTry 16 1 (sRet (mTup (mCons act (mCons (cst (.str [])) mNil)))) (fun j => D.tup [.non, D.str (nmT j)]))
theorem giv__law_told {P : Program} {w : World} {K : PySem.W.Frag} {mg : Str → Option Value} {base : Heap} (z : Fz K mg base) {k : Nat} (hk : 1 ≤ k) : Gives P w K mg base k "_law_told" "call" [("call" : Str), ("e" : Str)] b__law_told (tbK K) := by
  obtain ⟨fd, F⟩ := z.d__law_told
  refine ⟨topS 36, fd, F, sc__law_told, z.m__law_told, F.binds fun _ _ _ _ _ _ us hl => match us, hl with | [_], _ => rfl, Or.inl rfl, fun cdv A outer s H E G act hr0 hG hact => ?_⟩
  have hr := hr0.mono hk
  exact (ss_one (st_try (c := He.ga K "SplitError") (i := 1) (nE := 16) (h := (fun j => D.tup [.non, D.str (nmT j)])) rfl rfl sc__law_told.nd rfl (by rfl) ⟨by rfl, by decide, .inl z.m_SplitError⟩ (L2N.takes_of rfl rfl rfl rfl) (fun W2 pn xe tk2 hp2 => (ss_one (st_ret (me_tup (ma_cons (hact _ _ _ _ _ tk2) (ma_cons (me_str (s := []) (by rfl) (by rfl)) ma_nil)))))) (fun j hj => by rw [hG]; exact ⟨z.exm j hj, (su_pair (su_names (i := 1) (ev := "e") (namesC z j hj) (roomH_of1 (hr.mono (j := 1) (by decide))) (nm_text j hj) (nm_ok j hj) (by rfl) (Or.inl rfl)) (by intro env h; subst h; rfl) (by intro env h; subst h; rfl))⟩)))
theorem sc__law_all_refused : FnScope [("call" : Str), ("odds" : Str), ("name" : Str), ("odd" : Str)] [("call" : Str), ("odds" : Str), ("name" : Str)] (defScope (topS 37)) := ⟨rfl, rfl, rfl, by decide +kernel, rfl, by decide +kernel, by decide +kernel⟩
def b__law_all_refused (mf : List D → M D) : MS := (sRet (m2 dEq (mComp [3] (.nm 3) (mIt (vr 1)) (mB (m2 dNe (mLam 2 b__law_error (mHof 0 mf (mCons (vr 3) mNil))) (vr 2))) (vr 3)) (mLst mNil)))
def m__law_all_refused (mf : List D → M D) : List D → M D := runB true 4 3 (b__law_all_refused mf)
theorem ok__law_all_refused {P : Program} {w : World} {K : PySem.W.Frag} {mg : Str → Option Value} {base : Heap} (z : Fz K mg base) {G : Gx} {mf : List D → M D} (hG : G.tb = tbK K) (hB : ∀ fx, HofB P w K mg base 12 (G.fl fx) 1 mf) : Cal P w K mg base 15 "_law_all_refused" (spM K G 3 (m__law_all_refused mf)) := by
  obtain ⟨fd, F⟩ := z.d__law_all_refused
  refine ⟨fd, _, ok_defC F sc__law_all_refused rfl rfl fun cdv A outer s H E hcd hr => ?_, F.binds fun _ _ _ _ _ _ us hl => match us, hl with | [_, _, _], _ => rfl, F.kp, z.m__law_all_refused⟩
  exact (ss_one (st_ret (me_cmp (op_eqD (hu64 hr)) od_eq (me_comp (own := [("odd", 3)]) rfl sc__law_all_refused.nd (mi_it (v_ 1)) (blkOk_by (by rfl)) (by rfl) (fun _ _ _ _ _ => (pn_ 3 sc__law_all_refused.nd)) (fun _ _ _ _ _ => (mts_one fun fx => (mt_cmp (op_neD (hu64 hr)) od_ne (me_lam (k := 13) (kb := 12) (x := "_law_error") (P := (He.cT K ("_law_all_refused", none)).2) (by rw [hG]; exact giv__law_error z (by decide)) (hr.mono (by decide)) (by decide) takesN z.t__law_all_refused (by exact hcd) (by rw [hG]; exact (.head _)) (by rw [hG]; exact tab_hu z.tnd (.head _)) (LamX.lamS_by (by rfl)) (fun A outer s H E f c hr => (me_hof (i := 0) (hB _) hr (by decide) (L2N.takes_of rfl rfl rfl rfl) (ma_cons (v_ 3) ma_nil)))) (v_ 2) (nomark _)))) (fun fx _ _ _ _ _ => (v_ 3))) (me_lst ma_nil) (nomark _))))
theorem sc__law_bad_signs : FnScope [] [] (defScope (topS 38)) := ⟨rfl, rfl, rfl, by decide +kernel, rfl, by decide +kernel, by decide +kernel⟩
def b__law_bad_signs : MS := (sRet (mLst (mCons (cst .non) (mCons (cst (.str [42])) (mCons (cst (.str [43, 43, 43, 43, 43, 43])) (mCons (cst (.int 0)) (mCons (mTup (mCons (cst (.str [45])) mNil)) (mCons (mLst (mCons (cst (.str [43])) mNil)) (mCons (cst (.str [43, 32, 45])) (mCons (cst (.str [48])) mNil))))))))))
def m__law_bad_signs : List D → M D := runB true 0 0 (b__law_bad_signs)
theorem ok__law_bad_signs {P : Program} {w : World} {K : PySem.W.Frag} {mg : Str → Option Value} {base : Heap} (z : Fz K mg base) {G : Gx} (hG : G.tb = tbK K) : Cal P w K mg base 1 "_law_bad_signs" (spM K G 0 (m__law_bad_signs)) := by
  obtain ⟨fd, F⟩ := z.d__law_bad_signs
  refine ⟨fd, _, ok_def F sc__law_bad_signs rfl rfl fun cdv A outer s H E hr => ?_, F.binds fun _ _ _ _ _ _ us hl => match us, hl with | [], _ => rfl, F.kp, z.m__law_bad_signs⟩
  exact (ss_one (st_ret (me_lst (ma_cons me_non (ma_cons (me_str (s := [42]) (by rfl) (by rfl)) (ma_cons (me_str (s := [43, 43, 43, 43, 43, 43]) (by rfl) (by rfl)) (ma_cons me_int (ma_cons (me_tup (ma_cons (me_str (s := [45]) (by rfl) (by rfl)) ma_nil)) (ma_cons (me_lst (ma_cons (me_str (s := [43]) (by rfl) (by rfl)) ma_nil)) (ma_cons (me_str (s := [43, 32, 45]) (by rfl) (by rfl)) (ma_cons (me_str (s := [48]) (by rfl) (by rfl)) ma_nil)))))))))))
theorem sc__law_text : FnScope [("signs_so" : Str), ("at" : Str), ("found" : Str), ("many" : Str)] [("signs_so" : Str)] (defScope (topS 39)) := ⟨rfl, rfl, rfl, by decide +kernel, rfl, by decide +kernel, by decide +kernel⟩
def b__law_text : MS := (sSeq (sIf (mB (m2 dEq (vr 0) (cst (.str [])))) (sRet (cst (.str [48]))) sNx)
  (sSeq (sAsg (mTup (mCons (cst (.str [])) (mCons (cst (.int 0)) mNil))) (gTp [(gNm 2), (gNm 3)]))
  (sSeq (sFor (mItL itR1 (mCons (mFn (f1 dLen) (mCons (vr 0) mNil)) mNil)) (gNm 1) (sSeq (sAsg (m2 dAdd (vr 3) (cst (.int 1))) (gNm 3))
  (sIf (mOr (mB (m2 dEq (m2 dAdd (vr 1) (cst (.int 1))) (mFn (f1 dLen) (mCons (vr 0) mNil)))) (mB (m2 dNe (m2 dIx (vr 0) (m2 dAdd (vr 1) (cst (.int 1)))) (m2 dIx (vr 0) (vr 1))))) (sPar 2 3 (mCons (m2 dAdd (m2 dAdd (vr 2) (mFn (f1 dStr1) (mCons (vr 3) mNil))) (m2 dIx (vr 0) (vr 1))) (mCons (cst (.int 0)) mNil))) sNx)))
  (sRet (vr 2)))))
def m__law_text : List D → M D := runB true 4 1 (b__law_text)
theorem ok__law_text {P : Program} {w : World} {K : PySem.W.Frag} {mg : Str → Option Value} {base : Heap} (z : Fz K mg base) {G : Gx} (hG : G.tb = tbK K) : Cal P w K mg base 1 "_law_text" (spM K G 1 (m__law_text)) := by
  obtain ⟨fd, F⟩ := z.d__law_text
  refine ⟨fd, _, ok_def F sc__law_text rfl rfl fun cdv A outer s H E hr => ?_, F.binds fun _ _ _ _ _ _ us hl => match us, hl with | [_], _ => rfl, F.kp, z.m__law_text⟩
  exact (ss_cons (st_if (mt_cmp (op_eqD (hu64 hr)) od_eq (v_ 0) (me_str (s := []) (by rfl) (by rfl)) (nomark _)) (ss_one (st_ret (me_str (s := [48]) (by rfl) (by rfl)))) ss_nil)
    (ss_cons (st_asg (me_tup (ma_cons (me_str (s := []) (by rfl) (by rfl)) (ma_cons me_int ma_nil))) (gt_tup rfl (gts_cons (g_ 2 sc__law_text.nd) (gts_cons (g_ 3 sc__law_text.nd) gts_nil))))
    (ss_cons (st_for (L2.passes_of rfl) rfl (mi_range1 z.n_range (ma_cons (me_cb call_len cd_len z.n_len (by kernel_rfl) (ma_cons (v_ 0) ma_nil)) ma_nil)) (g_ 1 sc__law_text.nd) (ss_cons (st_asg (me_op op_addD od_add (v_ 3) me_int) (g_ 3 sc__law_text.nd))
    (ss_one (st_if (mt_w (mw_or (mt_cmp (op_eqD (hu64 hr)) od_eq (me_op op_addD od_add (v_ 1) me_int) (me_cb call_len cd_len z.n_len (by kernel_rfl) (ma_cons (v_ 0) ma_nil)) (nomark _)) (mw_or1 (mt_cmp (op_neD (hu64 hr)) od_ne (me_ix (v_ 0) (me_op op_addD od_add (v_ 1) me_int)) (me_ix (v_ 0) (v_ 1)) (nomark _))))) (ss_one (st_par (i := 2) (j := 3) rfl sc__law_text.nd rfl rfl (by decide) rfl rfl (ma_cons (me_op op_addD od_add (me_op op_addD od_add (v_ 2) (me_ct (L2.CallR.or call_str_int SkE.call_str_str) cd_str z.n_str (by kernel_rfl) (ma_cons (v_ 3) ma_nil))) (me_ix (v_ 0) (v_ 1))) (ma_cons me_int ma_nil)) (by rfl))) ss_nil))))
    (ss_one (st_ret (v_ 2))))))
theorem sc_law : FnScope [("script" : Str), ("every" : Str), ("steps_so" : Str), ("text" : Str), ("k" : Str), ("odds" : Str), ("signs_so" : Str), ("vat" : Str), ("turn" : Str), ("at" : Str), ("sign" : Str), ("bent" : Str), ("due" : Str), ("odd" : Str)] [("script" : Str)] (defScope (topS 40)) := ⟨rfl, rfl, rfl, by decide +kernel, rfl, by decide +kernel, by decide +kernel⟩
def b_law : MS := (sSeq (sAsg (fun _ => newCell (.dct [])) (gNm 1))
  (sSeq (sFor (mItL itR1 (mCons (cst (.int 6)) mNil)) (gNm 2) (sFor (mIt (mCall 1 m__law_every (mCons (vr 2) mNil))) (gNm 6) (sAsg (vr 6) (gSubX (vr 1) (mCall 1 m__law_text (mCons (vr 6) mNil))))))
  (sSeq (sForK 1 (gNm 3) (sIf (mOr (mB (m2 dNe (mCall 1 m_signs_text (mCons (mGet (vr 1) (vr 3)) mNil)) (vr 3))) (mB (m2 dNe (mCall 1 m_read_signs (mCons (vr 3) mNil)) (mGet (vr 1) (vr 3))))) (sRet (cst (.bl false))) sNx))
  (sSeq (sIf (mB (m2 dNe (mFn (f1 dLenD) (mCons (vr 1) mNil)) (cst (.int 63)))) (sRet (cst (.bl false))) sNx)
  (sSeq (sFor (mItL itR1 (mCons (mFn (f2 dMax) (mCons (cst (.int 5)) (mCons (mFn (f2 dMin) (mCons (cst (.int 11)) (mCons (mFn (f1 dLen) (mCons (vr 0) mNil)) mNil))) mNil))) mNil)) (gNm 4) (sSeq (sAsg (mCall 2 m__law_vat (mCons (vr 0) (mCons (vr 4) mNil))) (gNm 7))
  (sSeq (sFor (mItL itR1 (mCons (cst (.int 20)) mNil)) (gNm 8) (sSeq (sAsg (mCall 1 m__law_text (mCons (mCall 2 m__law_signs (mCons (vr 7) (mCons (cst (.int 5)) mNil))) mNil)) (gNm 3))
  (sSeq (sAsg (mCall 2 m__law_under (mCons (vr 7) (mCons (m2 dAdd (mFn (f1 dLen) (mCons (vr 3) mNil)) (cst (.int 1))) mNil))) (gNm 9))
  (sSeq (sAsg (mCall 2 m__law_some (mCons (vr 7) (mCons (mLst (mCons (cst (.str [45])) (mCons (cst (.str [43])) (mCons (cst (.str [49])) (mCons (cst (.str [50])) (mCons (cst (.str [48])) (mCons (cst (.str [53])) (mCons (cst (.str [32])) (mCons (cst (.str [49, 45])) (mCons (cst (.str [120])) mNil)))))))))) mNil))) (gNm 10))
  (sSeq (sAsg (mCall 2 m__law_some (mCons (vr 7) (mCons (mLst (mCons (m2 dAdd (m2 dAdd (mCut (vr 3) oNo (oAt (vr 9))) (vr 10)) (mCut (vr 3) (oAt (vr 9)) oNo)) (mCons (m2 dAdd (mCut (vr 3) oNo (oAt (vr 9))) (mCut (vr 3) (oAt (m2 dAdd (vr 9) (cst (.int 1)))) oNo)) (mCons (m2 dAdd (m2 dAdd (mCut (vr 3) oNo (oAt (vr 9))) (vr 10)) (mCut (vr 3) (oAt (m2 dAdd (vr 9) (cst (.int 1)))) oNo)) (mCons (m1 dRev (vr 3)) mNil))))) mNil))) (gNm 11))
  (sSeq (sAsg (mIf (mB (mInD false (vr 11) (vr 1))) (mTup (mCons (mGet (vr 1) (vr 11)) (mCons (cst (.str [])) mNil))) (mTup (mCons (cst .non) (mCons (cst (.str [116, 101, 120, 116, 32, 118, 97, 108, 117, 101])) mNil)))) (gNm 12))
  (sIf (mB (m2 dNe (mLam 2 b__law_told (mCall 1 m_read_signs (mCons (vr 11) mNil))) (vr 12))) (sRet (cst (.bl false))) sNx)))))))
  (sIf (mNot (mB (mHcall 3 (fun l => if l = 4 then some m_signs_text else none) m__law_all_refused (mCons (cst (.fn 4)) (mCons (mCall0 m__law_bad_signs) (mCons (cst (.str [115, 105, 103, 110, 115, 32, 118, 97, 108, 117, 101])) mNil)))))) (sRet (cst (.bl false))) sNx))))
  (sSeq (sIf (mB (m2 dNe (mLst (mCons (mCall 1 m_signs_text (mCons (cst (.str [45, 45, 43])) mNil)) (mCons (mCall 1 m_signs_text (mCons (cst (.str [])) mNil)) (mCons (mCall 1 m_read_signs (mCons (cst (.str [49, 43, 49, 45, 51, 43])) mNil)) (mCons (mCall 1 m_read_signs (mCons (cst (.str [48])) mNil)) mNil))))) (mLst (mCons (cst (.str [50, 45, 49, 43])) (mCons (cst (.str [48])) (mCons (cst (.str [43, 45, 43, 43, 43])) (mCons (cst (.str [])) mNil))))))) (sRet (cst (.bl false))) sNx)
  (sSeq (sAsg (mLst (mCons (cst .non) (mCons (cst (.int 5)) (mCons (cst (.str [])) (mCons (cst (.str [43])) (mCons (cst (.str [45, 45, 43])) (mCons (cst (.str [49, 43, 49, 43])) (mCons (cst (.str [50, 43, 50, 43, 50, 45])) (mCons (cst (.str [54, 45])) (mCons (cst (.str [48, 45])) (mCons (cst (.str [49, 45, 48, 43])) (mCons (cst (.str [48, 49, 45])) (mCons (cst (.str [49, 32, 45])) (mCons (cst (.str [45, 49])) (mCons (cst (.str [32, 49, 45])) (mCons (cst (.str [49, 45, 10])) (mCons (mTup (mCons (cst (.str [49, 45])) mNil)) (mCons (cst (.str [48, 48])) (mCons (cst (.str [50, 43, 52, 45])) mNil))))))))))))))))))) (gNm 5))
  (sRet (m2 dEq (mComp [13] (.nm 13) (mIt (vr 5)) (mB (m2 dNe (mLam 2 b__law_error (mCall 1 m_read_signs (mCons (vr 13) mNil))) (cst (.str [116, 101, 120, 116, 32, 118, 97, 108, 117, 101])))) (vr 13)) (mLst mNil))))))))))
def m_law : List D → M D := runB true 14 1 b_law
theorem okF_law {P : Program} {w : World} {K : PySem.W.Frag} {mg : Str → Option Value} {base : Heap} (z : Fz K mg base) {G : Gx} (hG : G.tb = tbK K) {fd : FuncData} (F : L2.Fun K "law" "law" (topS 40) (He.ga K "law") fd) : FnOk P w K mg base (L2N.CX P w) 16 (He.ga K "law") fd [("script" : Str)] (spM K G 1 m_law) := by
  refine ok_defC F sc_law rfl rfl fun cdv A outer s H E hcd hr => ?_
  exact (ss_cons (st_asg me_dnew (g_ 1 sc_law.nd))
    (ss_cons (st_for (L2.passes_of rfl) rfl (mi_range1 z.n_range (ma_cons me_int ma_nil)) (g_ 2 sc_law.nd) (ss_one (st_for (L2.passes_of rfl) rfl (mi_it (me_cal (ok__law_every z hG) hr (by decide) (L2N.takes_of rfl rfl rfl rfl) (ma_cons (v_ 2) ma_nil))) (g_ 6 sc_law.nd) (ss_one (st_asg (v_ 6) (gt_subX (W := W0) (hu1 hr) (v_ 1) (me_cal (ok__law_text z hG) hr (by decide) takesN (ma_cons (v_ 6) ma_nil))))))))
    (ss_cons (st_forK (i := 1) (L2.passes_of rfl) rfl (pv 1) (g_ 3 sc_law.nd) (ss_one (st_if (mt_w (mw_or (mt_cmp (op_neD (hu64 hr)) od_ne (me_cal (ok_signs_text z hG) hr (by decide) (L2N.takes_of rfl rfl rfl rfl) (ma_cons (me_get (hu1 hr) (v_ 1) (v_ 3)) ma_nil)) (v_ 3) (nomark _)) (mw_or1 (mt_cmp (op_neD (hu64 hr)) od_ne (me_cal (ok_read_signs z hG) hr (by decide) (L2N.takes_of rfl rfl rfl rfl) (ma_cons (v_ 3) ma_nil)) (me_get (hu1 hr) (v_ 1) (v_ 3)) (nomark _))))) (ss_one (st_ret me_bl)) ss_nil)))
    (ss_cons (st_if (mt_cmp (op_neD (hu64 hr)) od_ne (me_cb call_lenD cd_lenDict z.n_len (by kernel_rfl) (ma_cons (v_ 1) ma_nil)) me_int (nomark _)) (ss_one (st_ret me_bl)) ss_nil)
    (ss_cons (st_for (L2.passes_of rfl) rfl (mi_range1 z.n_range (ma_cons (me_cb (call_max2 rfl) cd_max z.n_max (by kernel_rfl) (ma_cons me_int (ma_cons (me_cb (call_min2 rfl) cd_min z.n_min (by kernel_rfl) (ma_cons me_int (ma_cons (me_cb call_len cd_len z.n_len (by kernel_rfl) (ma_cons (v_ 0) ma_nil)) ma_nil))) ma_nil))) ma_nil)) (g_ 4 sc_law.nd) (ss_cons (st_asg (me_cal (ok__law_vat z hG) hr (by decide) (L2N.takes_of rfl rfl rfl rfl) (ma_cons (v_ 0) (ma_cons (v_ 4) ma_nil))) (g_ 7 sc_law.nd))
    (ss_cons (st_for (L2.passes_of rfl) rfl (mi_range1 z.n_range (ma_cons me_int ma_nil)) (g_ 8 sc_law.nd) (ss_cons (st_asg (me_cal (ok__law_text z hG) hr (by decide) (L2N.takes_of rfl rfl rfl rfl) (ma_cons (me_cal (ok__law_signs z hG) hr (by decide) (L2N.takes_of rfl rfl rfl rfl) (ma_cons (v_ 7) (ma_cons me_int ma_nil))) ma_nil)) (g_ 3 sc_law.nd))
    (ss_cons (st_asg (me_cal (ok__law_under z hG) hr (by decide) (L2N.takes_of rfl rfl rfl rfl) (ma_cons (v_ 7) (ma_cons (me_op op_addD od_add (me_cb call_len cd_len z.n_len (by kernel_rfl) (ma_cons (v_ 3) ma_nil)) me_int) ma_nil))) (g_ 9 sc_law.nd))
    (ss_cons (st_asg (me_cal (ok__law_some z hG) hr (by decide) (L2N.takes_of rfl rfl rfl rfl) (ma_cons (v_ 7) (ma_cons (me_lst (ma_cons (me_str (s := [45]) (by rfl) (by rfl)) (ma_cons (me_str (s := [43]) (by rfl) (by rfl)) (ma_cons (me_str (s := [49]) (by rfl) (by rfl)) (ma_cons (me_str (s := [50]) (by rfl) (by rfl)) (ma_cons (me_str (s := [48]) (by rfl) (by rfl)) (ma_cons (me_str (s := [53]) (by rfl) (by rfl)) (ma_cons (me_str (s := [32]) (by rfl) (by rfl)) (ma_cons (me_str (s := [49, 45]) (by rfl) (by rfl)) (ma_cons (me_str (s := [120]) (by rfl) (by rfl)) ma_nil)))))))))) ma_nil))) (g_ 10 sc_law.nd))
    (ss_cons (st_asg (me_cal (ok__law_some z hG) hr (by decide) (L2N.takes_of rfl rfl rfl rfl) (ma_cons (v_ 7) (ma_cons (me_lst (ma_cons (me_op op_addD od_add (me_op op_addD od_add (me_cut (v_ 3) mo_none (mo_some (v_ 9))) (v_ 10)) (me_cut (v_ 3) (mo_some (v_ 9)) mo_none)) (ma_cons (me_op op_addD od_add (me_cut (v_ 3) mo_none (mo_some (v_ 9))) (me_cut (v_ 3) (mo_some (me_op op_addD od_add (v_ 9) me_int)) mo_none)) (ma_cons (me_op op_addD od_add (me_op op_addD od_add (me_cut (v_ 3) mo_none (mo_some (v_ 9))) (v_ 10)) (me_cut (v_ 3) (mo_some (me_op op_addD od_add (v_ 9) me_int)) mo_none)) (ma_cons (me_rev (v_ 3)) ma_nil))))) ma_nil))) (g_ 11 sc_law.nd))
    (ss_cons (st_asg (me_ifExp (mt_inD (hu1 hr) (v_ 11) (v_ 1)) (me_tup (ma_cons (me_get (hu1 hr) (v_ 1) (v_ 11)) (ma_cons (me_str (s := []) (by rfl) (by rfl)) ma_nil))) (me_tup (ma_cons me_non (ma_cons (me_str (s := [116, 101, 120, 116, 32, 118, 97, 108, 117, 101]) (by rfl) (by rfl)) ma_nil)))) (g_ 12 sc_law.nd))
    (ss_one (st_if (mt_cmp (op_neD (hu64 hr)) od_ne (me_lam (k := 4) (kb := 3) (x := "_law_told") (P := (He.cT K ("law", none)).2) (by rw [hG]; exact giv__law_told z (by decide)) (hr.mono (by decide)) (by decide) (L2N.takes_of rfl rfl rfl rfl) z.t_law (by exact hcd) (by rw [hG]; exact (.tail _ (.head _))) (by rw [hG]; exact tab_hu z.tnd (.tail _ (.head _))) (LamX.lamS_by (by rfl)) (fun A outer s H E f c hr => (me_cal (ok_read_signs z hG) hr (by decide) (L2N.takes_of rfl rfl rfl rfl) (ma_cons (v_ 11) ma_nil)))) (v_ 12) (nomark _)) (ss_one (st_ret me_bl)) ss_nil))))))))
    (ss_one (st_if (mt_not (mt_val (me_hcall (x := "_law_all_refused") (kB := 12) (mgd := m__law_all_refused) z.m__law_all_refused z.k__law_all_refused (fun G2 mf hG2 hB => ok__law_all_refused z (hG2.trans hG) hB) (hofTab z hG 4 (fun G2 hG2 => hof_def z.d_signs_text (ok_signs_text (P := P) (w := w) (base := base) z hG2)) (by decide) (by rfl)) hr (by decide) (L2N.takes_of rfl rfl rfl rfl) (ma_cons (me_gfn (k := 4) z.m_signs_text (by rw [hG]; rfl)) (ma_cons (me_cal0 (ok__law_bad_signs z hG) hr (by decide)) (ma_cons (me_str (s := [115, 105, 103, 110, 115, 32, 118, 97, 108, 117, 101]) (by rfl) (by rfl)) ma_nil)))))) (ss_one (st_ret me_bl)) ss_nil)))))
    (ss_cons (st_if (mt_cmp (op_neD (hu64 hr)) od_ne (me_lst (ma_cons (me_cal (ok_signs_text z hG) hr (by decide) (L2N.takes_of rfl rfl rfl rfl) (ma_cons (me_str (s := [45, 45, 43]) (by rfl) (by rfl)) ma_nil)) (ma_cons (me_cal (ok_signs_text z hG) hr (by decide) (L2N.takes_of rfl rfl rfl rfl) (ma_cons (me_str (s := []) (by rfl) (by rfl)) ma_nil)) (ma_cons (me_cal (ok_read_signs z hG) hr (by decide) (L2N.takes_of rfl rfl rfl rfl) (ma_cons (me_str (s := [49, 43, 49, 45, 51, 43]) (by rfl) (by rfl)) ma_nil)) (ma_cons (me_cal (ok_read_signs z hG) hr (by decide) (L2N.takes_of rfl rfl rfl rfl) (ma_cons (me_str (s := [48]) (by rfl) (by rfl)) ma_nil)) ma_nil))))) (me_lst (ma_cons (me_str (s := [50, 45, 49, 43]) (by rfl) (by rfl)) (ma_cons (me_str (s := [48]) (by rfl) (by rfl)) (ma_cons (me_str (s := [43, 45, 43, 43, 43]) (by rfl) (by rfl)) (ma_cons (me_str (s := []) (by rfl) (by rfl)) ma_nil))))) (nomark _)) (ss_one (st_ret me_bl)) ss_nil)
    (ss_cons (st_asg (me_lst (ma_cons me_non (ma_cons me_int (ma_cons (me_str (s := []) (by rfl) (by rfl)) (ma_cons (me_str (s := [43]) (by rfl) (by rfl)) (ma_cons (me_str (s := [45, 45, 43]) (by rfl) (by rfl)) (ma_cons (me_str (s := [49, 43, 49, 43]) (by rfl) (by rfl)) (ma_cons (me_str (s := [50, 43, 50, 43, 50, 45]) (by rfl) (by rfl)) (ma_cons (me_str (s := [54, 45]) (by rfl) (by rfl)) (ma_cons (me_str (s := [48, 45]) (by rfl) (by rfl)) (ma_cons (me_str (s := [49, 45, 48, 43]) (by rfl) (by rfl)) (ma_cons (me_str (s := [48, 49, 45]) (by rfl) (by rfl)) (ma_cons (me_str (s := [49, 32, 45]) (by rfl) (by rfl)) (ma_cons (me_str (s := [45, 49]) (by rfl) (by rfl)) (ma_cons (me_str (s := [32, 49, 45]) (by rfl) (by rfl)) (ma_cons (me_str (s := [49, 45, 10]) (by rfl) (by rfl)) (ma_cons (me_tup (ma_cons (me_str (s := [49, 45]) (by rfl) (by rfl)) ma_nil)) (ma_cons (me_str (s := [48, 48]) (by rfl) (by rfl)) (ma_cons (me_str (s := [50, 43, 52, 45]) (by rfl) (by rfl)) ma_nil))))))))))))))))))) (g_ 5 sc_law.nd))
    (ss_one (st_ret (me_cmp (op_eqD (hu64 hr)) od_eq (me_comp (own := [("odd", 13)]) rfl sc_law.nd (mi_it (v_ 5)) (blkOk_by (by rfl)) (by rfl) (fun _ _ _ _ _ => (pn_ 13 sc_law.nd)) (fun _ _ _ _ _ => (mts_one fun fx => (mt_cmp (op_neD (hu64 hr)) od_ne (me_lam (k := 4) (kb := 3) (x := "_law_error") (P := (He.cT K ("law", none)).2) (by rw [hG]; exact giv__law_error z (by decide)) (hr.mono (by decide)) (by decide) takesN z.t_law (by exact hcd) (by rw [hG]; exact (.tail _ (.head _))) (by rw [hG]; exact tab_hu z.tnd (.tail _ (.head _))) (LamX.lamS_by (by rfl)) (fun A outer s H E f c hr => (me_cal (ok_read_signs z hG) hr (by decide) (L2N.takes_of rfl rfl rfl rfl) (ma_cons (v_ 13) ma_nil)))) (me_str (s := [116, 101, 120, 116, 32, 118, 97, 108, 117, 101]) (by rfl) (by rfl)) (nomark _)))) (fun fx _ _ _ _ _ => (v_ 13))) (me_lst ma_nil) (nomark _)))))))))))
end K07
namespace DL
/-! ### the plain side: what a run on the empty store tells of any store -/
structure PureM {α : Type} (m : M α) : Prop where
  ok : ∀ a st', m [] = .ok a st' → st' = [] ∧ ∀ st, nhS st = true → m st = .ok a st
  ex : ∀ c st', m [] = .exc c st' → st' = [] ∧ ∀ st, nhS st = true → m st = .exc c st
abbrev PureE {α : Type} (m : Env' → M α) : Prop := ∀ ρ, PureM (m ρ)
abbrev PureF {α β : Type} (f : α → M β) : Prop := ∀ x, PureM (f x)
abbrev PureO (f : D → D → M D) : Prop := ∀ x y, PureM (f x y)
section
variable {α β : Type}
theorem pu_ret (a : α) : PureM (ret a) := ⟨fun b st' h => by cases h; exact ⟨rfl, fun _ _ => rfl⟩, fun c st' h => by cases h⟩
theorem pu_fail : PureM (fail : M α) := ⟨fun b st' h => (by cases h), fun c st' h => (by cases h)⟩
theorem pu_bad {m : M α} (h : m [] = .bad) : PureM m := ⟨fun b st' e => (by rw [h] at e; cases e), fun c st' e => (by rw [h] at e; cases e)⟩
theorem pu_chk {b : Bool} {m : M α} (h : PureM m) : PureM (chk b m) := by
  cases b with
  | true => exact h
  | false => exact pu_fail
theorem pu_bnd {m : M α} {f : α → M β} (h : PureM m) (hf : ∀ a, PureM (f a)) : PureM (bnd m f) := by
  refine ⟨fun b st' e => ?_, fun c st' e => ?_⟩
  · unfold bnd at e
    cases q : m [] with
    | ok a s1 =>
      rw [q] at e
      obtain ⟨rfl, h1⟩ := h.ok a s1 q
      obtain ⟨rfl, h2⟩ := (hf a).ok b st' e
      exact ⟨rfl, fun st hs => by unfold bnd; rw [h1 st hs]; exact h2 st hs⟩
    | exc c s1 => rw [q] at e; cases e
    | bad => rw [q] at e; cases e
  · unfold bnd at e
    cases q : m [] with
    | ok a s1 =>
      rw [q] at e
      obtain ⟨rfl, h1⟩ := h.ok a s1 q
      obtain ⟨rfl, h2⟩ := (hf a).ex c st' e
      exact ⟨rfl, fun st hs => by unfold bnd; rw [h1 st hs]; exact h2 st hs⟩
    | exc c' s1 =>
      rw [q] at e
      cases e
      obtain ⟨rfl, h1⟩ := h.ex _ _ q
      exact ⟨rfl, fun st hs => by unfold bnd; rw [h1 st hs]⟩
    | bad => rw [q] at e; cases e
theorem pu_noEx {m : M α} (h : PureM m) : PureM (noEx m) := by
  refine ⟨fun b st' e => ?_, fun c st' e => ?_⟩
  · unfold noEx at e
    cases q : m [] with
    | ok a s1 =>
      rw [q] at e
      cases e
      obtain ⟨rfl, h1⟩ := h.ok _ _ q
      exact ⟨rfl, fun st hs => by unfold noEx; rw [h1 st hs]⟩
    | exc c s1 => rw [q] at e; cases e
    | bad => rw [q] at e; cases e
  · unfold noEx at e
    cases q : m [] with
    | ok a s1 => rw [q] at e; cases e
    | exc c s1 => rw [q] at e; cases e
    | bad => rw [q] at e; cases e
theorem pu_vr (i : Nat) : PureE (vr i) := fun ρ => by
  unfold vr
  split
  · exact pu_ret _
  · exact pu_fail
theorem pu_cst (d : D) : PureE (cst d) := fun ρ => pu_ret d
theorem pu_asB : PureF asB := fun d => by
  cases d <;> first | exact pu_ret _ | exact pu_fail
theorem pu_m2 {op : D → D → M D} {a b : Env' → M D} (ho : PureO op) (ha : PureE a) (hb : PureE b) : PureE (m2 op a b) := fun ρ => pu_bnd (ha ρ) fun x => pu_bnd (hb ρ) fun y => ho x y
theorem pu_m1 {f : D → M D} {a : Env' → M D} (ho : PureF f) (ha : PureE a) : PureE (m1 f a) := fun ρ => pu_bnd (ha ρ) ho
theorem pu_mB {a : Env' → M D} (ha : PureE a) : PureE (mB a) := fun ρ => pu_bnd (ha ρ) pu_asB
theorem pu_mAnd {a b : Env' → M Bool} (ha : PureE a) (hb : PureE b) : PureE (mAnd a b) := fun ρ => pu_bnd (ha ρ) fun c => by
  cases c
  · exact pu_ret _
  · exact hb ρ
theorem pu_mOr {a b : Env' → M Bool} (ha : PureE a) (hb : PureE b) : PureE (mOr a b) := fun ρ => pu_bnd (ha ρ) fun c => by
  cases c
  · exact hb ρ
  · exact pu_ret _
theorem pu_mNot {a : Env' → M Bool} (ha : PureE a) : PureE (mNot a) := fun ρ => pu_bnd (ha ρ) fun c => pu_ret _
theorem pu_mIf {c : Env' → M Bool} {a b : Env' → M α} (hc : PureE c) (ha : PureE a) (hb : PureE b) : PureE (mIf c a b) := fun ρ => pu_bnd (hc ρ) fun k => by
  cases k
  · exact hb ρ
  · exact ha ρ
theorem pu_vAnd {a b : Env' → M D} (ha : PureE a) (hb : PureE b) : PureE (vAnd a b) := fun ρ => pu_bnd (ha ρ) fun x => pu_bnd (pu_asB x) fun c => by
  cases c
  · exact pu_ret _
  · exact hb ρ
theorem pu_vOr {a b : Env' → M D} (ha : PureE a) (hb : PureE b) : PureE (vOr a b) := fun ρ => pu_bnd (ha ρ) fun x => pu_bnd (pu_asB x) fun c => by
  cases c
  · exact hb ρ
  · exact pu_ret _
theorem pu_vNot {a : Env' → M D} (ha : PureE a) : PureE (vNot a) := fun ρ => pu_bnd (ha ρ) fun x => pu_bnd (pu_asB x) fun c => pu_ret _
theorem pu_mNil : PureE mNil := fun ρ => pu_ret _
theorem pu_mCons {m : Env' → M D} {ms : Env' → M (List D)} (ha : PureE m) (hb : PureE ms) : PureE (mCons m ms) := fun ρ => pu_bnd (ha ρ) fun x => pu_bnd (hb ρ) fun y => pu_ret _
theorem pu_mTup {ms : Env' → M (List D)} (hb : PureE ms) : PureE (mTup ms) := fun ρ => pu_bnd (hb ρ) fun x => pu_chk (pu_ret _)
theorem pu_mLst {ms : Env' → M (List D)} (hb : PureE ms) : PureE (mLst ms) := fun ρ => pu_bnd (hb ρ) fun x => pu_chk (pu_ret _)
theorem pu_mCall {n : Nat} {m : List D → M D} {ms : Env' → M (List D)} (hm : PureF m) (hb : PureE ms) : PureE (mCall n m ms) := fun ρ => pu_bnd (hb ρ) fun x => pu_chk (hm x)
theorem pu_mCall0 {m : List D → M D} (hm : PureF m) : PureE (mCall0 m) := fun ρ => pu_noEx (hm _)
theorem pu_mFn {f : List D → M D} {ms : Env' → M (List D)} (hm : PureF f) (hb : PureE ms) : PureE (mFn f ms) := fun ρ => pu_bnd (hb ρ) hm
theorem pu_f1 {g : D → M D} (h : PureF g) : PureF (f1 g) := fun x => by
  unfold f1
  split
  · exact h _
  · exact pu_fail
theorem pu_f2 {g : D → D → M D} (h : PureO g) : PureF (f2 g) := fun x => by
  unfold f2
  split
  · exact h _ _
  · exact pu_fail
theorem pu_mMeth {kd : D → M Unit} {f : D → List D → M D} {mo : Env' → M D} {ms : Env' → M (List D)} (hk : PureF kd) (hf : ∀ x, PureF (f x)) (ho : PureE mo) (hs : PureE ms) : PureE (mMeth kd f mo ms) := fun ρ => pu_bnd (ho ρ) fun x => pu_bnd (hk x) fun _ => pu_bnd (hs ρ) fun y => hf x y
theorem pu_mCut {m : Env' → M D} {lo hi : MO} (hm : PureE m) (hl : PureE lo) (hh : PureE hi) (hc : ∀ x l h, PureM (dCut x l h)) : PureE (mCut m lo hi) := fun ρ => pu_bnd (hm ρ) fun x => pu_bnd (hl ρ) fun l => pu_bnd (hh ρ) fun h => hc x l h
theorem pu_oNo : PureE oNo := fun ρ => pu_ret _
theorem pu_oAt {m : Env' → M D} (h : PureE m) : PureE (oAt m) := fun ρ => pu_bnd (h ρ) fun d => by
  split
  · exact pu_ret _
  · exact pu_fail
theorem pu_mChain {o1 o2 : D → D → M D} {a b c : Env' → M D} (h1 : PureO o1) (h2 : PureO o2) (ha : PureE a) (hb : PureE b) (hc : PureE c) : PureE (mChain o1 o2 a b c) := fun ρ => pu_bnd (ha ρ) fun x => pu_bnd (hb ρ) fun y => pu_bnd (pu_bnd (h1 x y) pu_asB) fun k => by
  cases k
  · exact pu_ret _
  · exact pu_bnd (hc ρ) fun z => h2 y z
/-! operators -/
theorem pu_lLst : PureF lLst := fun d => by
  cases d <;> first | exact pu_ret _ | exact pu_fail | exact pu_bad rfl
theorem pu_deref : PureF deref := fun d => by
  cases d <;> first | exact pu_ret _ | exact pu_bad rfl
theorem pu_dEq : PureO dEq := fun x y => pu_bnd (pu_deref x) fun a => pu_bnd (pu_deref y) fun b => pu_chk (pu_ret _)
theorem pu_dNe : PureO dNe := fun x y => pu_bnd (pu_deref x) fun a => pu_bnd (pu_deref y) fun b => pu_chk (pu_ret _)
theorem pu_i2 {f : Int → Int → M D} (h : ∀ i j, PureM (f i j)) : PureO (i2 f) := fun x y => by
  cases x <;> first
    | exact pu_fail
    | (cases y <;> first
        | exact h _ _
        | exact pu_fail)
theorem pu_dCat : PureO dCat := fun x y => pu_bnd (pu_lLst x) fun a => pu_bnd (pu_lLst y) fun b => pu_chk (pu_ret _)
theorem pu_dAdd : PureO dAdd := fun x y => by
  cases x <;> first
    | exact pu_dCat _ _
    | (cases y <;> first
        | exact pu_ret _
        | exact pu_fail
        | exact pu_chk (pu_ret _))
theorem pu_dSub : PureO dSub := pu_i2 fun _ _ => pu_ret _
theorem pu_dMulI : PureO dMulI := pu_i2 fun _ _ => pu_chk (pu_ret _)
theorem pu_dMul : PureO dMul := fun x y => by
  cases x <;> first
    | exact pu_dMulI _ _
    | exact pu_fail
    | (cases y <;> first
        | exact pu_chk (pu_ret _)
        | exact pu_fail)
theorem pu_dMulX : PureO dMulX := fun x y => by
  unfold dMulX
  split
  · exact pu_chk (pu_ret _)
  · exact pu_dMul _ _
theorem pu_dMod : PureO dMod := pu_i2 fun _ _ => pu_chk (pu_ret _)
theorem pu_dFdiv : PureO dFdiv := pu_i2 fun _ _ => pu_chk (pu_ret _)
theorem pu_dPow : PureO dPow := pu_i2 fun _ _ => pu_chk (pu_ret _)
theorem pu_dShl : PureO dShl := pu_i2 fun _ _ => pu_chk (pu_ret _)
theorem pu_dShr : PureO dShr := pu_i2 fun _ _ => pu_chk (pu_ret _)
theorem pu_dLt : PureO dLt := pu_i2 fun _ _ => pu_ret _
theorem pu_dLe : PureO dLe := pu_i2 fun _ _ => pu_ret _
theorem pu_dGt : PureO dGt := pu_i2 fun _ _ => pu_ret _
theorem pu_dGe : PureO dGe := pu_i2 fun _ _ => pu_ret _
theorem pu_dMax : PureO dMax := fun x y => pu_i2 (fun _ _ => pu_ret _) x y
theorem pu_dMin : PureO dMin := fun x y => pu_i2 (fun _ _ => pu_ret _) x y
theorem pu_dInG (b : Bool) : PureO (dInG b) := fun x y => by
  unfold dInG
  split
  · exact pu_chk (pu_ret _)
  · split
    · split
      · exact pu_ret _
      · exact pu_fail
    · exact pu_fail
  · exact pu_bnd (pu_lLst _) fun a => pu_chk (pu_ret _)
theorem pu_atD (xs : List D) (i : Int) : PureM (atD xs i) := by
  unfold atD
  split
  · split
    · exact pu_ret _
    · exact pu_fail
  · exact pu_fail
theorem pu_dIx : PureO dIx := fun x y => by
  unfold dIx
  split
  · split
    · exact pu_atD _ _
    · exact pu_atD _ _
    · refine pu_chk ?_
      split
      · split
        · exact pu_ret _
        · exact pu_fail
      · exact pu_fail
    · exact pu_bnd (pu_lLst _) fun a => pu_atD _ _
  · exact pu_fail
theorem pu_dCut (x : D) (l h : Option Int) : PureM (dCut x l h) := by
  unfold dCut
  split
  · exact pu_ret _
  · exact pu_chk (pu_ret _)
  · exact pu_bnd (pu_lLst _) fun a => pu_ret _
theorem pu_dNeg : PureF dNeg := fun d => by cases d <;> first | exact pu_ret _ | exact pu_fail
theorem pu_dAbs : PureF dAbs := fun d => by cases d <;> first | exact pu_ret _ | exact pu_fail
theorem pu_dInt1 : PureF dInt1 := fun d => by
  unfold dInt1
  split <;> first
    | exact pu_ret _
    | exact pu_fail
    | exact pu_chk (pu_ret _)
theorem pu_dStr1 : PureF dStr1 := fun d => by
  unfold dStr1
  split <;> first
    | exact pu_ret _
    | exact pu_fail
    | exact pu_chk (pu_ret _)
theorem pu_dLen : PureF dLen := fun d => by
  unfold dLen
  split <;> first
    | exact pu_ret _
    | exact pu_chk (pu_ret _)
    | exact pu_bnd (pu_lLst _) fun a => pu_ret _
theorem pu_dTuple : PureF dTuple := fun d => by
  unfold dTuple
  split <;> first
    | exact pu_ret _
    | exact pu_bnd (pu_lLst _) fun a => pu_ret _
theorem pu_dList : PureF dList := fun d => by
  unfold dList
  split <;> first
    | exact pu_ret _
    | exact pu_bnd (pu_lLst _) fun a => pu_ret _
theorem pu_kLst : PureF kLst := fun d => pu_bnd (pu_lLst d) fun _ => pu_ret _
theorem pu_kStr : PureF kStr := fun d => by cases d <;> first | exact pu_ret _ | exact pu_fail
theorem pu_dJoin (o : D) : PureF (dJoin o) := fun xs => by
  unfold dJoin
  split
  · split
    · split
      · split
        · exact pu_chk (pu_ret _)
        · exact pu_fail
      · refine pu_bnd (pu_lLst _) fun a => ?_
        split
        · exact pu_chk (pu_ret _)
        · exact pu_fail
    · exact pu_fail
  · exact pu_fail
theorem pu_dIndex (o : D) : PureF (dIndex o) := fun xs => by
  unfold dIndex
  split
  · refine pu_bnd (pu_lLst _) fun a => pu_chk ?_
    split
    · exact pu_ret _
    · exact pu_fail
  · exact pu_fail
theorem pu_dIsN : PureF dIsN := fun d => by cases d <;> exact pu_ret _
theorem pu_dNotN : PureF dNotN := fun d => by cases d <;> exact pu_ret _
theorem pu_dIsStr : PureF dIsStr := fun d => by cases d <;> first | exact pu_ret _ | exact pu_fail
theorem pu_dIsInt : PureF dIsInt := fun d => by cases d <;> first | exact pu_ret _ | exact pu_fail
theorem pu_dIsBool : PureF dIsBool := fun d => by cases d <;> first | exact pu_ret _ | exact pu_fail
theorem pu_dIsTup : PureF dIsTup := fun d => by cases d <;> first | exact pu_ret _ | exact pu_fail
theorem pu_dRev : PureF dRev := fun d => by
  cases d <;> first
    | exact pu_chk (pu_ret _)
    | exact pu_fail
    | exact pu_bad rfl
theorem pu_dSum : PureF dSum := fun d => pu_bnd (pu_lLst _) fun a => by
  split
  · exact pu_ret _
  · exact pu_fail
theorem pu_dAll : PureF dAll := fun d => pu_bnd (pu_lLst _) fun a => by
  split
  · exact pu_ret _
  · exact pu_fail
theorem pu_dAny : PureF dAny := fun d => pu_bnd (pu_lLst _) fun a => by
  split
  · exact pu_ret _
  · exact pu_fail
/-! what is walked -/
structure PureI (m : M Itm) : Prop where
  p : PureM m
  ck : ∀ it st', m [] = .ok it st' → it.ck = always
abbrev PureJ (m : Env' → M Itm) : Prop := ∀ ρ, PureI (m ρ)
theorem pui_ret (xs : List D) : PureI (ret ⟨xs, always⟩) := ⟨pu_ret _, fun it st' h => by cases h; rfl⟩
theorem pui_fail : PureI fail := ⟨pu_fail, fun it st' h => by cases h⟩
theorem pui_bad {m : M Itm} (h : m [] = .bad) : PureI m := ⟨pu_bad h, fun it st' e => by rw [h] at e; cases e⟩
theorem pui_chk {b : Bool} {m : M Itm} (h : PureI m) : PureI (chk b m) := by
  cases b with
  | true => exact h
  | false => exact pui_fail
theorem pui_bnd {m : M α} {f : α → M Itm} (h : PureM m) (hf : ∀ a, PureI (f a)) : PureI (bnd m f) := by
  refine ⟨pu_bnd h fun a => (hf a).p, fun it st' e => ?_⟩
  unfold bnd at e
  cases q : m [] with
  | ok a s1 =>
    rw [q] at e
    obtain ⟨rfl, h1⟩ := h.ok a s1 q
    exact (hf a).ck it st' e
  | exc c s1 => rw [q] at e; cases e
  | bad => rw [q] at e; cases e
theorem pui_itA (d : D) : PureI (itA d) := by
  cases d <;> first
    | exact pui_ret _
    | exact pui_fail
    | exact pui_bad rfl
theorem pui_lsA (d : D) : PureI (lsA d) := by
  cases d <;> first
    | exact pui_ret _
    | exact pui_fail
    | exact pui_bad rfl
theorem pui_mIt {m : Env' → M D} (h : PureE m) : PureJ (mIt m) := fun ρ => pui_bnd (h ρ) pui_itA
theorem pui_mItL {f : List D → M Itm} {ms : Env' → M (List D)} (hf : ∀ xs, PureI (f xs)) (h : PureE ms) : PureJ (mItL f ms) := fun ρ => pui_bnd (h ρ) hf
theorem pui_itR1 (xs : List D) : PureI (itR1 xs) := by
  unfold itR1
  split
  · exact pui_chk (pui_ret _)
  · exact pui_fail
theorem pui_itR2 (xs : List D) : PureI (itR2 xs) := by
  unfold itR2
  split
  · exact pui_chk (pui_ret _)
  · exact pui_fail
theorem pui_itR3 (xs : List D) : PureI (itR3 xs) := by
  unfold itR3
  split
  · exact pui_chk (pui_ret _)
  · exact pui_fail
theorem pui_itEnum (xs : List D) : PureI (itEnum xs) := by
  unfold itEnum
  split
  · rename_i x
    refine ⟨pu_bnd (pui_lsA x).p fun a => pu_ret _, fun it st' e => ?_⟩
    unfold bnd at e
    cases q : lsA x [] with
    | ok a s2 =>
      rw [q] at e
      cases e
      exact (pui_lsA x).ck a _ q
    | exc c s1 => rw [q] at e; cases e
    | bad => rw [q] at e; cases e
  · exact pui_fail
theorem pui_itZip (xs : List D) : PureI (itZip xs) := by
  unfold itZip
  split
  · split
    · split
      · exact pui_ret _
      · exact pui_fail
    · rename_i y x _
      refine ⟨pu_bnd (pui_lsA _).p fun a => pu_bnd (pui_lsA _).p fun b => pu_ret _, fun it st' e => ?_⟩
      unfold bnd at e
      split at e
      · rename_i a s1 q
        obtain ⟨rfl, _⟩ := (pui_lsA _).p.ok a s1 q
        dsimp only at e
        split at e
        · rename_i b s2 q2
          cases e
          have h1 := (pui_lsA _).ck a _ q
          have h2 := (pui_lsA _).ck b _ q2
          show (fun st => a.ck st && b.ck st) = always
          rw [h1, h2]
          rfl
        · cases e
        · cases e
      · cases e
      · cases e
  · exact pui_fail
/-! targets, comprehensions -/
theorem pu_gNm (i : Nat) (d : D) (ρ : Env') : PureM (gNm i d ρ) := pu_ret _
theorem pu_gL : ∀ (is : List Nat) (ds : List D) (ρ : Env'), PureM (gL (is.map gNm) ds ρ)
  | [], [], ρ => pu_ret _
  | [], _ :: _, _ => pu_fail
  | _ :: _, [], _ => pu_fail
  | i :: is, d :: ds, ρ => pu_bnd (pu_ret _) fun ρ' => pu_gL is ds ρ'
theorem pu_ct (c : CT) (d : D) (ρ : Env') : PureM (c.gm d ρ) := by
  cases c with
  | nm i => exact pu_ret _
  | tp is =>
    cases d with
    | tup xs => exact pu_gL is xs ρ
    | _ => exact pu_fail
theorem pu_cmpL {c : CT} {tt : Env' → M Bool} {e : Env' → M D} (ht : PureE tt) (he : PureE e) (ρ : Env') : ∀ xs, PureM (cmpL always c.gm tt e ρ xs)
  | [] => pu_ret _
  | x :: xs => by
    have h : cmpL always c.gm tt e ρ (x :: xs) = bnd (c.gm x ρ) (fun ρ1 => bnd (tt ρ1) fun b => match b with
      | true => bnd (e ρ1) fun y => bnd (cmpL always c.gm tt e ρ xs) fun ys => ret (y :: ys)
      | false => cmpL always c.gm tt e ρ xs) := rfl
    rw [h]
    refine pu_bnd (pu_ct c x ρ) fun ρ1 => pu_bnd (ht ρ1) fun b => ?_
    cases b with
    | true => exact pu_bnd (he ρ1) fun y => pu_bnd (pu_cmpL ht he ρ xs) fun ys => pu_ret _
    | false => exact pu_cmpL ht he ρ xs
theorem pu_yes : PureE yes := fun ρ => pu_ret _
theorem pu_bndI {m : M Itm} {f : Itm → M β} (h : PureI m) (hf : ∀ it, it.ck = always → PureM (f it)) : PureM (bnd m f) := by
  refine ⟨fun b st' e => ?_, fun c st' e => ?_⟩
  · unfold bnd at e
    cases q : m [] with
    | ok a s1 =>
      rw [q] at e
      obtain ⟨rfl, h1⟩ := h.p.ok a s1 q
      obtain ⟨rfl, h2⟩ := (hf a (h.ck a _ q)).ok b st' e
      exact ⟨rfl, fun st hs => by unfold bnd; rw [h1 st hs]; exact h2 st hs⟩
    | exc c s1 => rw [q] at e; cases e
    | bad => rw [q] at e; cases e
  · unfold bnd at e
    cases q : m [] with
    | ok a s1 =>
      rw [q] at e
      obtain ⟨rfl, h1⟩ := h.p.ok a s1 q
      obtain ⟨rfl, h2⟩ := (hf a (h.ck a _ q)).ex c st' e
      exact ⟨rfl, fun st hs => by unfold bnd; rw [h1 st hs]; exact h2 st hs⟩
    | exc c' s1 =>
      rw [q] at e
      cases e
      obtain ⟨rfl, h1⟩ := h.p.ex _ _ q
      exact ⟨rfl, fun st hs => by unfold bnd; rw [h1 st hs]⟩
    | bad => rw [q] at e; cases e
theorem pu_mComp {own : List Nat} {c : CT} {mi : Env' → M Itm} {tt : Env' → M Bool} {e : Env' → M D} (hi : PureJ mi) (ht : PureE tt) (he : PureE e) : PureE (mComp own c mi tt e) := fun ρ => pu_bndI (hi ρ) fun it hck => by
  refine pu_chk (pu_bnd (pu_noEx ?_) fun ys => pu_ret _)
  rw [hck]
  exact pu_cmpL ht he _ _
/-! statements -/
inductive PureR (b : Store → RS) : Prop
  | nx {ρ : Env'} (h0 : b [] = .nx ρ []) (h : ∀ st, nhS st = true → b st = .nx ρ st)
  | rt {d : D} (h0 : b [] = .rt d []) (h : ∀ st, nhS st = true → b st = .rt d st)
  | bk {ρ : Env'} (h0 : b [] = .bk ρ []) (h : ∀ st, nhS st = true → b st = .bk ρ st)
  | ct {ρ : Env'} (h0 : b [] = .ct ρ []) (h : ∀ st, nhS st = true → b st = .ct ρ st)
  | exc {c : Nat} {ρ : Env'} (h0 : b [] = .exc c ρ []) (h : ∀ st, nhS st = true → b st = .exc c ρ st)
  | bad (h0 : b [] = .bad)
abbrev PureS (b : MS) : Prop := ∀ ρ, PureR (b ρ)
theorem pr_sB {ρ : Env'} {m : M α} {f : α → Store → RS} (h : PureM m) (hf : ∀ a, PureR (f a)) : PureR (sB ρ m f) := by
  cases q : m [] with
  | ok a s1 =>
    obtain ⟨rfl, h1⟩ := h.ok a s1 q
    cases hf a with
    | nx h0 h2 => exact .nx (by unfold sB; rw [q]; exact h0) fun st hs => by unfold sB; rw [h1 st hs]; exact h2 st hs
    | rt h0 h2 => exact .rt (by unfold sB; rw [q]; exact h0) fun st hs => by unfold sB; rw [h1 st hs]; exact h2 st hs
    | bk h0 h2 => exact .bk (by unfold sB; rw [q]; exact h0) fun st hs => by unfold sB; rw [h1 st hs]; exact h2 st hs
    | ct h0 h2 => exact .ct (by unfold sB; rw [q]; exact h0) fun st hs => by unfold sB; rw [h1 st hs]; exact h2 st hs
    | exc h0 h2 => exact .exc (by unfold sB; rw [q]; exact h0) fun st hs => by unfold sB; rw [h1 st hs]; exact h2 st hs
    | bad h0 => exact .bad (by unfold sB; rw [q]; exact h0)
  | exc c s1 =>
    obtain ⟨rfl, h1⟩ := h.ex c s1 q
    exact .exc (by unfold sB; rw [q]) fun st hs => by unfold sB; rw [h1 st hs]
  | bad => exact .bad (by unfold sB; rw [q])
theorem pr_nx (ρ : Env') : PureR (fun st => .nx ρ st) := .nx rfl fun _ _ => rfl
theorem ps_nx : PureS sNx := fun ρ => .nx rfl fun _ _ => rfl
theorem ps_brk : PureS sBrk := fun ρ => .bk rfl fun _ _ => rfl
theorem ps_cnt : PureS sCnt := fun ρ => .ct rfl fun _ _ => rfl
theorem ps_seq {a b : MS} (ha : PureS a) (hb : PureS b) : PureS (sSeq a b) := fun ρ => by
  cases ha ρ with
  | @nx ρ' h0 h =>
    cases hb ρ' with
    | nx g0 g => exact .nx (by unfold sSeq; rw [h0]; exact g0) fun st hs => by unfold sSeq; rw [h st hs]; exact g st hs
    | rt g0 g => exact .rt (by unfold sSeq; rw [h0]; exact g0) fun st hs => by unfold sSeq; rw [h st hs]; exact g st hs
    | bk g0 g => exact .bk (by unfold sSeq; rw [h0]; exact g0) fun st hs => by unfold sSeq; rw [h st hs]; exact g st hs
    | ct g0 g => exact .ct (by unfold sSeq; rw [h0]; exact g0) fun st hs => by unfold sSeq; rw [h st hs]; exact g st hs
    | exc g0 g => exact .exc (by unfold sSeq; rw [h0]; exact g0) fun st hs => by unfold sSeq; rw [h st hs]; exact g st hs
    | bad g0 => exact .bad (by unfold sSeq; rw [h0]; exact g0)
  | rt h0 h => exact .rt (by unfold sSeq; rw [h0]) fun st hs => by unfold sSeq; rw [h st hs]
  | bk h0 h => exact .bk (by unfold sSeq; rw [h0]) fun st hs => by unfold sSeq; rw [h st hs]
  | ct h0 h => exact .ct (by unfold sSeq; rw [h0]) fun st hs => by unfold sSeq; rw [h st hs]
  | exc h0 h => exact .exc (by unfold sSeq; rw [h0]) fun st hs => by unfold sSeq; rw [h st hs]
  | bad h0 => exact .bad (by unfold sSeq; rw [h0])
theorem ps_expr {m : Env' → M D} (h : PureE m) : PureS (sExpr m) := fun ρ => pr_sB (h ρ) fun a => pr_nx ρ
theorem ps_ret {m : Env' → M D} (h : PureE m) : PureS (sRet m) := fun ρ => pr_sB (h ρ) fun a => .rt rfl fun _ _ => rfl
theorem ps_retN : PureS sRetN := fun ρ => .rt rfl fun _ _ => rfl
theorem ps_if {c : Env' → M Bool} {a b : MS} (hc : PureE c) (ha : PureS a) (hb : PureS b) : PureS (sIf c a b) := fun ρ => pr_sB (hc ρ) fun k => by
  cases k
  · exact hb ρ
  · exact ha ρ
abbrev PureG (g : GM) : Prop := ∀ d ρ, PureM (g d ρ)
theorem pr_sG {g : GM} (h : PureG g) (d : D) (ρ : Env') : PureR (sG g d ρ) := by
  cases q : g d ρ [] with
  | ok a s1 =>
    obtain ⟨rfl, h1⟩ := (h d ρ).ok a s1 q
    exact .nx (by unfold sG; rw [q]) fun st hs => by unfold sG; rw [h1 st hs]
  | exc c s1 => exact .bad (by unfold sG; rw [q])
  | bad => exact .bad (by unfold sG; rw [q])
theorem ps_asg {m : Env' → M D} {g : GM} (h : PureE m) (hg : PureG g) : PureS (sAsg m g) := fun ρ => pr_sB (h ρ) fun d => pr_sG hg d ρ
theorem ps_par {i j : Nat} {ms : Env' → M (List D)} (h : PureE ms) : PureS (sPar i j ms) := fun ρ => pr_sB (h ρ) fun ds => by
  cases ds with
  | nil => exact .bad rfl
  | cons a r => cases r with
    | nil => exact .bad rfl
    | cons b r => cases r with
      | nil => exact .nx rfl fun _ _ => rfl
      | cons _ _ => exact .bad rfl
theorem pug_gNm (i : Nat) : PureG (gNm i) := fun d ρ => pu_ret _
theorem pug_nil : ∀ (ds : List D) (ρ : Env'), PureM (gL [] ds ρ)
  | [], ρ => pu_ret _
  | _ :: _, _ => pu_fail
theorem pug_cons {g : GM} {gs : List GM} (h : PureG g) (hs : ∀ ds ρ, PureM (gL gs ds ρ)) : ∀ (ds : List D) (ρ : Env'), PureM (gL (g :: gs) ds ρ)
  | [], _ => pu_fail
  | d :: ds, ρ => pu_bnd (h d ρ) fun ρ' => hs ds ρ'
theorem pug_tp {gs : List GM} (hs : ∀ ds ρ, PureM (gL gs ds ρ)) : PureG (gTp gs) := fun d ρ => by
  cases d with
  | tup xs => exact hs xs ρ
  | _ => exact pu_fail
theorem PureR.congr {b b' : Store → RS} (e : ∀ st, nhS st = true → b st = b' st) (h : PureR b') : PureR b := by
  cases h with
  | nx h0 h => exact .nx ((e _ rfl).trans h0) fun st hs => (e st hs).trans (h st hs)
  | rt h0 h => exact .rt ((e _ rfl).trans h0) fun st hs => (e st hs).trans (h st hs)
  | bk h0 h => exact .bk ((e _ rfl).trans h0) fun st hs => (e st hs).trans (h st hs)
  | ct h0 h => exact .ct ((e _ rfl).trans h0) fun st hs => (e st hs).trans (h st hs)
  | exc h0 h => exact .exc ((e _ rfl).trans h0) fun st hs => (e st hs).trans (h st hs)
  | bad h0 => exact .bad ((e _ rfl).trans h0)
theorem pr_lp {r : Store → RS} {f : MS} (h : PureR r) (hf : PureS f) : PureR (fun st => match r st with
    | .nx ρ st => f ρ st
    | .ct ρ st => f ρ st
    | .bk ρ st => .nx ρ st
    | r => r) := by
  cases h with
  | @nx ρ h0 h =>
    cases hf ρ with
    | nx g0 g => exact .nx (by simp only [h0]; exact g0) fun st hs => by simp only [h st hs]; exact g st hs
    | rt g0 g => exact .rt (by simp only [h0]; exact g0) fun st hs => by simp only [h st hs]; exact g st hs
    | bk g0 g => exact .bk (by simp only [h0]; exact g0) fun st hs => by simp only [h st hs]; exact g st hs
    | ct g0 g => exact .ct (by simp only [h0]; exact g0) fun st hs => by simp only [h st hs]; exact g st hs
    | exc g0 g => exact .exc (by simp only [h0]; exact g0) fun st hs => by simp only [h st hs]; exact g st hs
    | bad g0 => exact .bad (by simp only [h0]; exact g0)
  | @ct ρ h0 h =>
    cases hf ρ with
    | nx g0 g => exact .nx (by simp only [h0]; exact g0) fun st hs => by simp only [h st hs]; exact g st hs
    | rt g0 g => exact .rt (by simp only [h0]; exact g0) fun st hs => by simp only [h st hs]; exact g st hs
    | bk g0 g => exact .bk (by simp only [h0]; exact g0) fun st hs => by simp only [h st hs]; exact g st hs
    | ct g0 g => exact .ct (by simp only [h0]; exact g0) fun st hs => by simp only [h st hs]; exact g st hs
    | exc g0 g => exact .exc (by simp only [h0]; exact g0) fun st hs => by simp only [h st hs]; exact g st hs
    | bad g0 => exact .bad (by simp only [h0]; exact g0)
  | @rt d h0 h => exact .rt (d := d) (by simp only [h0]) fun st hs => by simp only [h st hs]
  | @bk ρ h0 h => exact .nx (ρ := ρ) (by simp only [h0]) fun st hs => by simp only [h st hs]
  | @exc c ρ h0 h => exact .exc (c := c) (ρ := ρ) (by simp only [h0]) fun st hs => by simp only [h st hs]
  | bad h0 => exact .bad (by simp only [h0])
theorem pr_for {g : GM} {b : MS} (hg : PureG g) (hb : PureS b) : ∀ xs : List D, PureS (forL always g b xs)
  | [] => fun ρ => .nx rfl fun _ _ => rfl
  | x :: xs => fun ρ => by
    cases q : g x ρ [] with
    | exc c s1 => exact .bad (by simp only [forL, always, q])
    | bad => exact .bad (by simp only [forL, always, q])
    | ok ρ1 s1 =>
      obtain ⟨rfl, h1⟩ := (hg x ρ).ok ρ1 s1 q
      refine PureR.congr (fun st hs => ?_) (pr_lp (hb ρ1) (pr_for hg hb xs))
      have e : forL always g b (x :: xs) ρ st = lpK (b ρ1 st) (forL always g b xs) := by
        simp only [forL, always, h1 st hs]
      rw [e]
      unfold lpK
      cases b ρ1 st <;> rfl
theorem ps_for {mi : Env' → M Itm} {g : GM} {b : MS} (hi : PureJ mi) (hg : PureG g) (hb : PureS b) : PureS (sFor mi g b) := fun ρ => by
  cases q : mi ρ [] with
  | ok it s1 =>
    obtain ⟨rfl, h1⟩ := (hi ρ).p.ok it s1 q
    have hck := (hi ρ).ck it _ q
    refine PureR.congr (fun st hs => ?_) (pr_for hg hb it.xs ρ)
    unfold sFor sB
    rw [h1 st hs, ← hck]
  | exc c s1 =>
    obtain ⟨rfl, h1⟩ := (hi ρ).p.ex c s1 q
    exact .exc (by unfold sFor sB; rw [q]) fun st hs => by unfold sFor sB; rw [h1 st hs]
  | bad => exact .bad (by unfold sFor sB; rw [q])
theorem ps_raise (c : Nat) : PureS (sRaise c) := fun ρ => .exc rfl fun _ _ => rfl
theorem pf_runB {fr : Bool} {N n : Nat} {b : MS} (h : PureS b) : PureF (runB fr N n b) := fun ds => by
  cases c : decide (ds.length = n) with
  | false => exact pu_bad (by unfold runB; rw [c])
  | true =>
    have eo : ∀ (d : D) (st : Store), endOk st d st = .ok d st := fun d st => by unfold endOk; rw [decide_eq_true rfl]
    have ee : ∀ (k : Nat) (st : Store), endEx st k st = .exc k st := fun k st => by unfold endEx; rw [decide_eq_true rfl]
    cases h (ds.map some ++ List.replicate (N - n) none) with
    | nx h0 h1 =>
      have e : ∀ st, nhS st = true → runB fr N n b ds st = .ok .non st := fun st hs => by
        unfold runB
        rw [c]
        simp only [h1 st hs]
        cases fr
        · rfl
        · exact eo _ _
      exact ⟨fun a st' q => (by rw [e _ rfl] at q; cases q; exact ⟨rfl, e⟩), fun k st' q => (by rw [e _ rfl] at q; cases q)⟩
    | @rt d h0 h1 =>
      have e : ∀ st, nhS st = true → runB fr N n b ds st = .ok d st := fun st hs => by
        unfold runB
        rw [c]
        simp only [h1 st hs]
        cases fr
        · rfl
        · exact eo _ _
      exact ⟨fun a st' q => (by rw [e _ rfl] at q; cases q; exact ⟨rfl, e⟩), fun k st' q => (by rw [e _ rfl] at q; cases q)⟩
    | @exc k ρ h0 h1 =>
      have e : ∀ st, nhS st = true → runB fr N n b ds st = .exc k st := fun st hs => by
        unfold runB
        rw [c]
        simp only [h1 st hs]
        cases fr
        · rfl
        · exact ee _ _
      exact ⟨fun a st' q => (by rw [e _ rfl] at q; cases q), fun k st' q => (by rw [e _ rfl] at q; cases q; exact ⟨rfl, e⟩)⟩
    | bk h0 h1 => exact pu_bad (by unfold runB; rw [c]; simp only [h0])
    | ct h0 h1 => exact pu_bad (by unfold runB; rw [c]; simp only [h0])
    | bad h0 => exact pu_bad (by unfold runB; rw [c]; simp only [h0])
theorem ps_try {nE i : Nat} {b : MS} {h : Nat → D} (hb : PureS b) : PureS (sTry nE i b h) := fun ρ => by
  cases hb ρ with
  | nx h0 h1 => exact .nx (by unfold sTry; rw [h0]) fun st hs => by unfold sTry; rw [h1 st hs]
  | rt h0 h1 => exact .rt (by unfold sTry; rw [h0]) fun st hs => by unfold sTry; rw [h1 st hs]
  | bk h0 h1 => exact .bk (by unfold sTry; rw [h0]) fun st hs => by unfold sTry; rw [h1 st hs]
  | ct h0 h1 => exact .ct (by unfold sTry; rw [h0]) fun st hs => by unfold sTry; rw [h1 st hs]
  | bad h0 => exact .bad (by unfold sTry; rw [h0])
  | @exc c ρ' h0 h1 =>
    cases k : decide (c < nE) && decide (i < ρ'.length) with
    | true => exact .rt (d := h c) (by unfold sTry; rw [h0]; simp only [k]) fun st hs => by unfold sTry; rw [h1 st hs]; simp only [k]
    | false => exact .bad (by unfold sTry; rw [h0]; simp only [k])
theorem pu_hfr {m : M D} (h : PureM m) : PureM (hfr m) := by
  refine ⟨fun a st' e => ?_, fun c st' e => ?_⟩
  · unfold hfr at e
    cases q : m [] with
    | ok d s1 =>
      rw [q] at e
      obtain ⟨rfl, h1⟩ := h.ok d s1 q
      cases k : D.nh d with
      | false => simp [nhS, k] at e
      | true =>
        simp [nhS, k] at e
        obtain ⟨rfl, rfl⟩ := e
        exact ⟨rfl, fun st hs => by unfold hfr; rw [hs, h1 st hs]; simp [k, hs]⟩
    | exc c s1 => rw [q] at e; simp [nhS] at e; split at e <;> cases e
    | bad => rw [q] at e; simp [nhS] at e
  · unfold hfr at e
    cases q : m [] with
    | ok d s1 => rw [q] at e; simp [nhS] at e; split at e <;> cases e
    | exc c' s1 =>
      rw [q] at e
      obtain ⟨rfl, h1⟩ := h.ex c' s1 q
      simp [nhS] at e
      obtain ⟨rfl, rfl⟩ := e
      exact ⟨rfl, fun st hs => by unfold hfr; rw [hs, h1 st hs]; simp [hs]⟩
    | bad => rw [q] at e; simp [nhS] at e
theorem pu_actM {m : M D} (h : PureM m) : PureE (actM m) := fun ρ => by
  unfold actM
  split
  · exact pu_hfr h
  · exact pu_fail
theorem pu_mLam {len : Nat} {bg : (Env' → M D) → MS} {m : Env' → M D} (hb : ∀ act, PureE act → PureS (bg act)) (hm : PureE m) : PureE (mLam len bg m) := fun ρ => pu_hfr (pf_runB (hb _ (pu_actM (hm ρ))) _)
theorem pu_mHof {i : Nat} {m : List D → M D} {ms : Env' → M (List D)} (hm : PureF m) (hs : PureE ms) : PureE (mHof i m ms) := fun ρ => by
  unfold mHof
  split
  · exact pu_mCall hm hs ρ
  · exact pu_fail
theorem pu_mHcall {n : Nat} {mt : Nat → Option (List D → M D)} {mg : (List D → M D) → List D → M D} {ms : Env' → M (List D)} (ht : ∀ l m, mt l = some m → PureF m) (hg : ∀ m, PureF m → PureF (mg m)) (hs : PureE ms) : PureE (mHcall n mt mg ms) := fun ρ => pu_bnd (hs ρ) fun ds => by
  split
  · split
    · rename_i mf e
      exact pu_chk (pu_hfr (hg _ (ht _ _ e) _))
    · exact pu_fail
  · exact pu_fail
end
end DL
namespace DL
end DL
namespace K07
open DL
theorem pf_is_good : PureF m_is_good := by unfold m_is_good b_is_good; repeat (first | with_reducible exact pu_vr _ | with_reducible exact pu_cst _ | with_reducible exact pu_mNil | with_reducible exact pu_oNo | with_reducible exact pu_yes | with_reducible exact pug_gNm _ | with_reducible exact pug_nil | with_reducible exact ps_nx | with_reducible exact ps_brk | with_reducible exact ps_cnt | with_reducible exact ps_retN | with_reducible exact ps_raise _ | with_reducible exact pu_dAdd | with_reducible exact pu_dSub | with_reducible exact pu_dMulX | with_reducible exact pu_dMul | with_reducible exact pu_dMod | with_reducible exact pu_dFdiv | with_reducible exact pu_dPow | with_reducible exact pu_dShl | with_reducible exact pu_dShr | with_reducible exact pu_dEq | with_reducible exact pu_dNe | with_reducible exact pu_dLt | with_reducible exact pu_dLe | with_reducible exact pu_dGt | with_reducible exact pu_dGe | with_reducible exact pu_dMax | with_reducible exact pu_dMin | with_reducible exact pu_dInG _ | with_reducible exact pu_dIx | with_reducible exact pu_dCut | with_reducible exact pu_dNeg | with_reducible exact pu_dAbs | with_reducible exact pu_dInt1 | with_reducible exact pu_dStr1 | with_reducible exact pu_dLen | with_reducible exact pu_dTuple | with_reducible exact pu_dList | with_reducible exact pu_dSum | with_reducible exact pu_dAll | with_reducible exact pu_dAny | with_reducible exact pu_kLst | with_reducible exact pu_kStr | with_reducible exact pu_dJoin | with_reducible exact pu_dIndex | with_reducible exact pu_dIsN | with_reducible exact pu_dNotN | with_reducible exact pu_dIsStr | with_reducible exact pu_dIsInt | with_reducible exact pu_dIsBool | with_reducible exact pu_dIsTup | with_reducible exact pu_dRev | with_reducible exact pui_itR1 | with_reducible exact pui_itR2 | with_reducible exact pui_itR3 | with_reducible exact pui_itEnum | with_reducible exact pui_itZip | with_reducible apply pu_m2 | with_reducible apply pu_m1 | with_reducible apply pu_mB | with_reducible apply pu_mAnd | with_reducible apply pu_mOr | with_reducible apply pu_mNot | with_reducible apply pu_mIf | with_reducible apply pu_vAnd | with_reducible apply pu_vOr | with_reducible apply pu_vNot | with_reducible apply pu_mCons | with_reducible apply pu_mTup | with_reducible apply pu_mLst | with_reducible apply pu_mCall | with_reducible apply pu_mCall0 | with_reducible apply pu_mFn | with_reducible apply pu_f1 | with_reducible apply pu_f2 | with_reducible apply pu_mMeth | with_reducible apply pu_mCut | with_reducible apply pu_oAt | with_reducible apply pu_mChain | with_reducible apply pui_mIt | with_reducible apply pui_mItL | with_reducible apply pu_mComp | with_reducible apply ps_seq | with_reducible apply ps_expr | with_reducible apply ps_ret | with_reducible apply ps_if | with_reducible apply ps_asg | with_reducible apply ps_par | with_reducible apply pug_tp | with_reducible apply pug_cons | with_reducible apply ps_for | with_reducible apply ps_try | with_reducible apply pf_runB | with_reducible apply pu_mLam | with_reducible apply pu_mHof | with_reducible assumption)
theorem pf_need_signs : PureF m_need_signs := by unfold m_need_signs b_need_signs; repeat (first | (first | with_reducible exact pu_vr _ | with_reducible exact pu_cst _ | with_reducible exact pu_mNil | with_reducible exact pu_oNo | with_reducible exact pu_yes | with_reducible exact pug_gNm _ | with_reducible exact pug_nil | with_reducible exact ps_nx | with_reducible exact ps_brk | with_reducible exact ps_cnt | with_reducible exact ps_retN | with_reducible exact ps_raise _ | with_reducible exact pu_dAdd | with_reducible exact pu_dSub | with_reducible exact pu_dMulX | with_reducible exact pu_dMul | with_reducible exact pu_dMod | with_reducible exact pu_dFdiv | with_reducible exact pu_dPow | with_reducible exact pu_dShl | with_reducible exact pu_dShr | with_reducible exact pu_dEq | with_reducible exact pu_dNe | with_reducible exact pu_dLt | with_reducible exact pu_dLe | with_reducible exact pu_dGt | with_reducible exact pu_dGe | with_reducible exact pu_dMax | with_reducible exact pu_dMin | with_reducible exact pu_dInG _ | with_reducible exact pu_dIx | with_reducible exact pu_dCut | with_reducible exact pu_dNeg | with_reducible exact pu_dAbs | with_reducible exact pu_dInt1 | with_reducible exact pu_dStr1 | with_reducible exact pu_dLen | with_reducible exact pu_dTuple | with_reducible exact pu_dList | with_reducible exact pu_dSum | with_reducible exact pu_dAll | with_reducible exact pu_dAny | with_reducible exact pu_kLst | with_reducible exact pu_kStr | with_reducible exact pu_dJoin | with_reducible exact pu_dIndex | with_reducible exact pu_dIsN | with_reducible exact pu_dNotN | with_reducible exact pu_dIsStr | with_reducible exact pu_dIsInt | with_reducible exact pu_dIsBool | with_reducible exact pu_dIsTup | with_reducible exact pu_dRev | with_reducible exact pui_itR1 | with_reducible exact pui_itR2 | with_reducible exact pui_itR3 | with_reducible exact pui_itEnum | with_reducible exact pui_itZip | with_reducible apply pu_m2 | with_reducible apply pu_m1 | with_reducible apply pu_mB | with_reducible apply pu_mAnd | with_reducible apply pu_mOr | with_reducible apply pu_mNot | with_reducible apply pu_mIf | with_reducible apply pu_vAnd | with_reducible apply pu_vOr | with_reducible apply pu_vNot | with_reducible apply pu_mCons | with_reducible apply pu_mTup | with_reducible apply pu_mLst | with_reducible apply pu_mCall | with_reducible apply pu_mCall0 | with_reducible apply pu_mFn | with_reducible apply pu_f1 | with_reducible apply pu_f2 | with_reducible apply pu_mMeth | with_reducible apply pu_mCut | with_reducible apply pu_oAt | with_reducible apply pu_mChain | with_reducible apply pui_mIt | with_reducible apply pui_mItL | with_reducible apply pu_mComp | with_reducible apply ps_seq | with_reducible apply ps_expr | with_reducible apply ps_ret | with_reducible apply ps_if | with_reducible apply ps_asg | with_reducible apply ps_par | with_reducible apply pug_tp | with_reducible apply pug_cons | with_reducible apply ps_for | with_reducible apply ps_try | with_reducible apply pf_runB | with_reducible apply pu_mLam | with_reducible apply pu_mHof | with_reducible assumption) | exact pf_is_good)
theorem pf_text_of : PureF m_text_of := by unfold m_text_of b_text_of; repeat (first | with_reducible exact pu_vr _ | with_reducible exact pu_cst _ | with_reducible exact pu_mNil | with_reducible exact pu_oNo | with_reducible exact pu_yes | with_reducible exact pug_gNm _ | with_reducible exact pug_nil | with_reducible exact ps_nx | with_reducible exact ps_brk | with_reducible exact ps_cnt | with_reducible exact ps_retN | with_reducible exact ps_raise _ | with_reducible exact pu_dAdd | with_reducible exact pu_dSub | with_reducible exact pu_dMulX | with_reducible exact pu_dMul | with_reducible exact pu_dMod | with_reducible exact pu_dFdiv | with_reducible exact pu_dPow | with_reducible exact pu_dShl | with_reducible exact pu_dShr | with_reducible exact pu_dEq | with_reducible exact pu_dNe | with_reducible exact pu_dLt | with_reducible exact pu_dLe | with_reducible exact pu_dGt | with_reducible exact pu_dGe | with_reducible exact pu_dMax | with_reducible exact pu_dMin | with_reducible exact pu_dInG _ | with_reducible exact pu_dIx | with_reducible exact pu_dCut | with_reducible exact pu_dNeg | with_reducible exact pu_dAbs | with_reducible exact pu_dInt1 | with_reducible exact pu_dStr1 | with_reducible exact pu_dLen | with_reducible exact pu_dTuple | with_reducible exact pu_dList | with_reducible exact pu_dSum | with_reducible exact pu_dAll | with_reducible exact pu_dAny | with_reducible exact pu_kLst | with_reducible exact pu_kStr | with_reducible exact pu_dJoin | with_reducible exact pu_dIndex | with_reducible exact pu_dIsN | with_reducible exact pu_dNotN | with_reducible exact pu_dIsStr | with_reducible exact pu_dIsInt | with_reducible exact pu_dIsBool | with_reducible exact pu_dIsTup | with_reducible exact pu_dRev | with_reducible exact pui_itR1 | with_reducible exact pui_itR2 | with_reducible exact pui_itR3 | with_reducible exact pui_itEnum | with_reducible exact pui_itZip | with_reducible apply pu_m2 | with_reducible apply pu_m1 | with_reducible apply pu_mB | with_reducible apply pu_mAnd | with_reducible apply pu_mOr | with_reducible apply pu_mNot | with_reducible apply pu_mIf | with_reducible apply pu_vAnd | with_reducible apply pu_vOr | with_reducible apply pu_vNot | with_reducible apply pu_mCons | with_reducible apply pu_mTup | with_reducible apply pu_mLst | with_reducible apply pu_mCall | with_reducible apply pu_mCall0 | with_reducible apply pu_mFn | with_reducible apply pu_f1 | with_reducible apply pu_f2 | with_reducible apply pu_mMeth | with_reducible apply pu_mCut | with_reducible apply pu_oAt | with_reducible apply pu_mChain | with_reducible apply pui_mIt | with_reducible apply pui_mItL | with_reducible apply pu_mComp | with_reducible apply ps_seq | with_reducible apply ps_expr | with_reducible apply ps_ret | with_reducible apply ps_if | with_reducible apply ps_asg | with_reducible apply ps_par | with_reducible apply pug_tp | with_reducible apply pug_cons | with_reducible apply ps_for | with_reducible apply ps_try | with_reducible apply pf_runB | with_reducible apply pu_mLam | with_reducible apply pu_mHof | with_reducible assumption)
theorem pf_read_in : PureF m_read_in := by unfold m_read_in b_read_in; repeat (first | (first | with_reducible exact pu_vr _ | with_reducible exact pu_cst _ | with_reducible exact pu_mNil | with_reducible exact pu_oNo | with_reducible exact pu_yes | with_reducible exact pug_gNm _ | with_reducible exact pug_nil | with_reducible exact ps_nx | with_reducible exact ps_brk | with_reducible exact ps_cnt | with_reducible exact ps_retN | with_reducible exact ps_raise _ | with_reducible exact pu_dAdd | with_reducible exact pu_dSub | with_reducible exact pu_dMulX | with_reducible exact pu_dMul | with_reducible exact pu_dMod | with_reducible exact pu_dFdiv | with_reducible exact pu_dPow | with_reducible exact pu_dShl | with_reducible exact pu_dShr | with_reducible exact pu_dEq | with_reducible exact pu_dNe | with_reducible exact pu_dLt | with_reducible exact pu_dLe | with_reducible exact pu_dGt | with_reducible exact pu_dGe | with_reducible exact pu_dMax | with_reducible exact pu_dMin | with_reducible exact pu_dInG _ | with_reducible exact pu_dIx | with_reducible exact pu_dCut | with_reducible exact pu_dNeg | with_reducible exact pu_dAbs | with_reducible exact pu_dInt1 | with_reducible exact pu_dStr1 | with_reducible exact pu_dLen | with_reducible exact pu_dTuple | with_reducible exact pu_dList | with_reducible exact pu_dSum | with_reducible exact pu_dAll | with_reducible exact pu_dAny | with_reducible exact pu_kLst | with_reducible exact pu_kStr | with_reducible exact pu_dJoin | with_reducible exact pu_dIndex | with_reducible exact pu_dIsN | with_reducible exact pu_dNotN | with_reducible exact pu_dIsStr | with_reducible exact pu_dIsInt | with_reducible exact pu_dIsBool | with_reducible exact pu_dIsTup | with_reducible exact pu_dRev | with_reducible exact pui_itR1 | with_reducible exact pui_itR2 | with_reducible exact pui_itR3 | with_reducible exact pui_itEnum | with_reducible exact pui_itZip | with_reducible apply pu_m2 | with_reducible apply pu_m1 | with_reducible apply pu_mB | with_reducible apply pu_mAnd | with_reducible apply pu_mOr | with_reducible apply pu_mNot | with_reducible apply pu_mIf | with_reducible apply pu_vAnd | with_reducible apply pu_vOr | with_reducible apply pu_vNot | with_reducible apply pu_mCons | with_reducible apply pu_mTup | with_reducible apply pu_mLst | with_reducible apply pu_mCall | with_reducible apply pu_mCall0 | with_reducible apply pu_mFn | with_reducible apply pu_f1 | with_reducible apply pu_f2 | with_reducible apply pu_mMeth | with_reducible apply pu_mCut | with_reducible apply pu_oAt | with_reducible apply pu_mChain | with_reducible apply pui_mIt | with_reducible apply pui_mItL | with_reducible apply pu_mComp | with_reducible apply ps_seq | with_reducible apply ps_expr | with_reducible apply ps_ret | with_reducible apply ps_if | with_reducible apply ps_asg | with_reducible apply ps_par | with_reducible apply pug_tp | with_reducible apply pug_cons | with_reducible apply ps_for | with_reducible apply ps_try | with_reducible apply pf_runB | with_reducible apply pu_mLam | with_reducible apply pu_mHof | with_reducible assumption) | exact pf_is_good | exact pf_text_of)
theorem pf_signs_text : PureF m_signs_text := by unfold m_signs_text b_signs_text; repeat (first | (first | with_reducible exact pu_vr _ | with_reducible exact pu_cst _ | with_reducible exact pu_mNil | with_reducible exact pu_oNo | with_reducible exact pu_yes | with_reducible exact pug_gNm _ | with_reducible exact pug_nil | with_reducible exact ps_nx | with_reducible exact ps_brk | with_reducible exact ps_cnt | with_reducible exact ps_retN | with_reducible exact ps_raise _ | with_reducible exact pu_dAdd | with_reducible exact pu_dSub | with_reducible exact pu_dMulX | with_reducible exact pu_dMul | with_reducible exact pu_dMod | with_reducible exact pu_dFdiv | with_reducible exact pu_dPow | with_reducible exact pu_dShl | with_reducible exact pu_dShr | with_reducible exact pu_dEq | with_reducible exact pu_dNe | with_reducible exact pu_dLt | with_reducible exact pu_dLe | with_reducible exact pu_dGt | with_reducible exact pu_dGe | with_reducible exact pu_dMax | with_reducible exact pu_dMin | with_reducible exact pu_dInG _ | with_reducible exact pu_dIx | with_reducible exact pu_dCut | with_reducible exact pu_dNeg | with_reducible exact pu_dAbs | with_reducible exact pu_dInt1 | with_reducible exact pu_dStr1 | with_reducible exact pu_dLen | with_reducible exact pu_dTuple | with_reducible exact pu_dList | with_reducible exact pu_dSum | with_reducible exact pu_dAll | with_reducible exact pu_dAny | with_reducible exact pu_kLst | with_reducible exact pu_kStr | with_reducible exact pu_dJoin | with_reducible exact pu_dIndex | with_reducible exact pu_dIsN | with_reducible exact pu_dNotN | with_reducible exact pu_dIsStr | with_reducible exact pu_dIsInt | with_reducible exact pu_dIsBool | with_reducible exact pu_dIsTup | with_reducible exact pu_dRev | with_reducible exact pui_itR1 | with_reducible exact pui_itR2 | with_reducible exact pui_itR3 | with_reducible exact pui_itEnum | with_reducible exact pui_itZip | with_reducible apply pu_m2 | with_reducible apply pu_m1 | with_reducible apply pu_mB | with_reducible apply pu_mAnd | with_reducible apply pu_mOr | with_reducible apply pu_mNot | with_reducible apply pu_mIf | with_reducible apply pu_vAnd | with_reducible apply pu_vOr | with_reducible apply pu_vNot | with_reducible apply pu_mCons | with_reducible apply pu_mTup | with_reducible apply pu_mLst | with_reducible apply pu_mCall | with_reducible apply pu_mCall0 | with_reducible apply pu_mFn | with_reducible apply pu_f1 | with_reducible apply pu_f2 | with_reducible apply pu_mMeth | with_reducible apply pu_mCut | with_reducible apply pu_oAt | with_reducible apply pu_mChain | with_reducible apply pui_mIt | with_reducible apply pui_mItL | with_reducible apply pu_mComp | with_reducible apply ps_seq | with_reducible apply ps_expr | with_reducible apply ps_ret | with_reducible apply ps_if | with_reducible apply ps_asg | with_reducible apply ps_par | with_reducible apply pug_tp | with_reducible apply pug_cons | with_reducible apply ps_for | with_reducible apply ps_try | with_reducible apply pf_runB | with_reducible apply pu_mLam | with_reducible apply pu_mHof | with_reducible assumption) | exact pf_need_signs | exact pf_text_of)
theorem pf_read_signs : PureF m_read_signs := by unfold m_read_signs b_read_signs; repeat (first | (first | with_reducible exact pu_vr _ | with_reducible exact pu_cst _ | with_reducible exact pu_mNil | with_reducible exact pu_oNo | with_reducible exact pu_yes | with_reducible exact pug_gNm _ | with_reducible exact pug_nil | with_reducible exact ps_nx | with_reducible exact ps_brk | with_reducible exact ps_cnt | with_reducible exact ps_retN | with_reducible exact ps_raise _ | with_reducible exact pu_dAdd | with_reducible exact pu_dSub | with_reducible exact pu_dMulX | with_reducible exact pu_dMul | with_reducible exact pu_dMod | with_reducible exact pu_dFdiv | with_reducible exact pu_dPow | with_reducible exact pu_dShl | with_reducible exact pu_dShr | with_reducible exact pu_dEq | with_reducible exact pu_dNe | with_reducible exact pu_dLt | with_reducible exact pu_dLe | with_reducible exact pu_dGt | with_reducible exact pu_dGe | with_reducible exact pu_dMax | with_reducible exact pu_dMin | with_reducible exact pu_dInG _ | with_reducible exact pu_dIx | with_reducible exact pu_dCut | with_reducible exact pu_dNeg | with_reducible exact pu_dAbs | with_reducible exact pu_dInt1 | with_reducible exact pu_dStr1 | with_reducible exact pu_dLen | with_reducible exact pu_dTuple | with_reducible exact pu_dList | with_reducible exact pu_dSum | with_reducible exact pu_dAll | with_reducible exact pu_dAny | with_reducible exact pu_kLst | with_reducible exact pu_kStr | with_reducible exact pu_dJoin | with_reducible exact pu_dIndex | with_reducible exact pu_dIsN | with_reducible exact pu_dNotN | with_reducible exact pu_dIsStr | with_reducible exact pu_dIsInt | with_reducible exact pu_dIsBool | with_reducible exact pu_dIsTup | with_reducible exact pu_dRev | with_reducible exact pui_itR1 | with_reducible exact pui_itR2 | with_reducible exact pui_itR3 | with_reducible exact pui_itEnum | with_reducible exact pui_itZip | with_reducible apply pu_m2 | with_reducible apply pu_m1 | with_reducible apply pu_mB | with_reducible apply pu_mAnd | with_reducible apply pu_mOr | with_reducible apply pu_mNot | with_reducible apply pu_mIf | with_reducible apply pu_vAnd | with_reducible apply pu_vOr | with_reducible apply pu_vNot | with_reducible apply pu_mCons | with_reducible apply pu_mTup | with_reducible apply pu_mLst | with_reducible apply pu_mCall | with_reducible apply pu_mCall0 | with_reducible apply pu_mFn | with_reducible apply pu_f1 | with_reducible apply pu_f2 | with_reducible apply pu_mMeth | with_reducible apply pu_mCut | with_reducible apply pu_oAt | with_reducible apply pu_mChain | with_reducible apply pui_mIt | with_reducible apply pui_mItL | with_reducible apply pu_mComp | with_reducible apply ps_seq | with_reducible apply ps_expr | with_reducible apply ps_ret | with_reducible apply ps_if | with_reducible apply ps_asg | with_reducible apply ps_par | with_reducible apply pug_tp | with_reducible apply pug_cons | with_reducible apply ps_for | with_reducible apply ps_try | with_reducible apply pf_runB | with_reducible apply pu_mLam | with_reducible apply pu_mHof | with_reducible assumption) | exact pf_read_in)
theorem pf__law_text : PureF m__law_text := by unfold m__law_text b__law_text; repeat (first | with_reducible exact pu_vr _ | with_reducible exact pu_cst _ | with_reducible exact pu_mNil | with_reducible exact pu_oNo | with_reducible exact pu_yes | with_reducible exact pug_gNm _ | with_reducible exact pug_nil | with_reducible exact ps_nx | with_reducible exact ps_brk | with_reducible exact ps_cnt | with_reducible exact ps_retN | with_reducible exact ps_raise _ | with_reducible exact pu_dAdd | with_reducible exact pu_dSub | with_reducible exact pu_dMulX | with_reducible exact pu_dMul | with_reducible exact pu_dMod | with_reducible exact pu_dFdiv | with_reducible exact pu_dPow | with_reducible exact pu_dShl | with_reducible exact pu_dShr | with_reducible exact pu_dEq | with_reducible exact pu_dNe | with_reducible exact pu_dLt | with_reducible exact pu_dLe | with_reducible exact pu_dGt | with_reducible exact pu_dGe | with_reducible exact pu_dMax | with_reducible exact pu_dMin | with_reducible exact pu_dInG _ | with_reducible exact pu_dIx | with_reducible exact pu_dCut | with_reducible exact pu_dNeg | with_reducible exact pu_dAbs | with_reducible exact pu_dInt1 | with_reducible exact pu_dStr1 | with_reducible exact pu_dLen | with_reducible exact pu_dTuple | with_reducible exact pu_dList | with_reducible exact pu_dSum | with_reducible exact pu_dAll | with_reducible exact pu_dAny | with_reducible exact pu_kLst | with_reducible exact pu_kStr | with_reducible exact pu_dJoin | with_reducible exact pu_dIndex | with_reducible exact pu_dIsN | with_reducible exact pu_dNotN | with_reducible exact pu_dIsStr | with_reducible exact pu_dIsInt | with_reducible exact pu_dIsBool | with_reducible exact pu_dIsTup | with_reducible exact pu_dRev | with_reducible exact pui_itR1 | with_reducible exact pui_itR2 | with_reducible exact pui_itR3 | with_reducible exact pui_itEnum | with_reducible exact pui_itZip | with_reducible apply pu_m2 | with_reducible apply pu_m1 | with_reducible apply pu_mB | with_reducible apply pu_mAnd | with_reducible apply pu_mOr | with_reducible apply pu_mNot | with_reducible apply pu_mIf | with_reducible apply pu_vAnd | with_reducible apply pu_vOr | with_reducible apply pu_vNot | with_reducible apply pu_mCons | with_reducible apply pu_mTup | with_reducible apply pu_mLst | with_reducible apply pu_mCall | with_reducible apply pu_mCall0 | with_reducible apply pu_mFn | with_reducible apply pu_f1 | with_reducible apply pu_f2 | with_reducible apply pu_mMeth | with_reducible apply pu_mCut | with_reducible apply pu_oAt | with_reducible apply pu_mChain | with_reducible apply pui_mIt | with_reducible apply pui_mItL | with_reducible apply pu_mComp | with_reducible apply ps_seq | with_reducible apply ps_expr | with_reducible apply ps_ret | with_reducible apply ps_if | with_reducible apply ps_asg | with_reducible apply ps_par | with_reducible apply pug_tp | with_reducible apply pug_cons | with_reducible apply ps_for | with_reducible apply ps_try | with_reducible apply pf_runB | with_reducible apply pu_mLam | with_reducible apply pu_mHof | with_reducible assumption)
theorem pf__law_every : PureF m__law_every := by unfold m__law_every b__law_every; repeat (first | with_reducible exact pu_vr _ | with_reducible exact pu_cst _ | with_reducible exact pu_mNil | with_reducible exact pu_oNo | with_reducible exact pu_yes | with_reducible exact pug_gNm _ | with_reducible exact pug_nil | with_reducible exact ps_nx | with_reducible exact ps_brk | with_reducible exact ps_cnt | with_reducible exact ps_retN | with_reducible exact ps_raise _ | with_reducible exact pu_dAdd | with_reducible exact pu_dSub | with_reducible exact pu_dMulX | with_reducible exact pu_dMul | with_reducible exact pu_dMod | with_reducible exact pu_dFdiv | with_reducible exact pu_dPow | with_reducible exact pu_dShl | with_reducible exact pu_dShr | with_reducible exact pu_dEq | with_reducible exact pu_dNe | with_reducible exact pu_dLt | with_reducible exact pu_dLe | with_reducible exact pu_dGt | with_reducible exact pu_dGe | with_reducible exact pu_dMax | with_reducible exact pu_dMin | with_reducible exact pu_dInG _ | with_reducible exact pu_dIx | with_reducible exact pu_dCut | with_reducible exact pu_dNeg | with_reducible exact pu_dAbs | with_reducible exact pu_dInt1 | with_reducible exact pu_dStr1 | with_reducible exact pu_dLen | with_reducible exact pu_dTuple | with_reducible exact pu_dList | with_reducible exact pu_dSum | with_reducible exact pu_dAll | with_reducible exact pu_dAny | with_reducible exact pu_kLst | with_reducible exact pu_kStr | with_reducible exact pu_dJoin | with_reducible exact pu_dIndex | with_reducible exact pu_dIsN | with_reducible exact pu_dNotN | with_reducible exact pu_dIsStr | with_reducible exact pu_dIsInt | with_reducible exact pu_dIsBool | with_reducible exact pu_dIsTup | with_reducible exact pu_dRev | with_reducible exact pui_itR1 | with_reducible exact pui_itR2 | with_reducible exact pui_itR3 | with_reducible exact pui_itEnum | with_reducible exact pui_itZip | with_reducible apply pu_m2 | with_reducible apply pu_m1 | with_reducible apply pu_mB | with_reducible apply pu_mAnd | with_reducible apply pu_mOr | with_reducible apply pu_mNot | with_reducible apply pu_mIf | with_reducible apply pu_vAnd | with_reducible apply pu_vOr | with_reducible apply pu_vNot | with_reducible apply pu_mCons | with_reducible apply pu_mTup | with_reducible apply pu_mLst | with_reducible apply pu_mCall | with_reducible apply pu_mCall0 | with_reducible apply pu_mFn | with_reducible apply pu_f1 | with_reducible apply pu_f2 | with_reducible apply pu_mMeth | with_reducible apply pu_mCut | with_reducible apply pu_oAt | with_reducible apply pu_mChain | with_reducible apply pui_mIt | with_reducible apply pui_mItL | with_reducible apply pu_mComp | with_reducible apply ps_seq | with_reducible apply ps_expr | with_reducible apply ps_ret | with_reducible apply ps_if | with_reducible apply ps_asg | with_reducible apply ps_par | with_reducible apply pug_tp | with_reducible apply pug_cons | with_reducible apply ps_for | with_reducible apply ps_try | with_reducible apply pf_runB | with_reducible apply pu_mLam | with_reducible apply pu_mHof | with_reducible assumption)
theorem ps__law_error (act : Env' → M D) (h : PureE act) : PureS (b__law_error act) := by unfold b__law_error; repeat (first | with_reducible exact pu_vr _ | with_reducible exact pu_cst _ | with_reducible exact pu_mNil | with_reducible exact pu_oNo | with_reducible exact pu_yes | with_reducible exact pug_gNm _ | with_reducible exact pug_nil | with_reducible exact ps_nx | with_reducible exact ps_brk | with_reducible exact ps_cnt | with_reducible exact ps_retN | with_reducible exact ps_raise _ | with_reducible exact pu_dAdd | with_reducible exact pu_dSub | with_reducible exact pu_dMulX | with_reducible exact pu_dMul | with_reducible exact pu_dMod | with_reducible exact pu_dFdiv | with_reducible exact pu_dPow | with_reducible exact pu_dShl | with_reducible exact pu_dShr | with_reducible exact pu_dEq | with_reducible exact pu_dNe | with_reducible exact pu_dLt | with_reducible exact pu_dLe | with_reducible exact pu_dGt | with_reducible exact pu_dGe | with_reducible exact pu_dMax | with_reducible exact pu_dMin | with_reducible exact pu_dInG _ | with_reducible exact pu_dIx | with_reducible exact pu_dCut | with_reducible exact pu_dNeg | with_reducible exact pu_dAbs | with_reducible exact pu_dInt1 | with_reducible exact pu_dStr1 | with_reducible exact pu_dLen | with_reducible exact pu_dTuple | with_reducible exact pu_dList | with_reducible exact pu_dSum | with_reducible exact pu_dAll | with_reducible exact pu_dAny | with_reducible exact pu_kLst | with_reducible exact pu_kStr | with_reducible exact pu_dJoin | with_reducible exact pu_dIndex | with_reducible exact pu_dIsN | with_reducible exact pu_dNotN | with_reducible exact pu_dIsStr | with_reducible exact pu_dIsInt | with_reducible exact pu_dIsBool | with_reducible exact pu_dIsTup | with_reducible exact pu_dRev | with_reducible exact pui_itR1 | with_reducible exact pui_itR2 | with_reducible exact pui_itR3 | with_reducible exact pui_itEnum | with_reducible exact pui_itZip | with_reducible apply pu_m2 | with_reducible apply pu_m1 | with_reducible apply pu_mB | with_reducible apply pu_mAnd | with_reducible apply pu_mOr | with_reducible apply pu_mNot | with_reducible apply pu_mIf | with_reducible apply pu_vAnd | with_reducible apply pu_vOr | with_reducible apply pu_vNot | with_reducible apply pu_mCons | with_reducible apply pu_mTup | with_reducible apply pu_mLst | with_reducible apply pu_mCall | with_reducible apply pu_mCall0 | with_reducible apply pu_mFn | with_reducible apply pu_f1 | with_reducible apply pu_f2 | with_reducible apply pu_mMeth | with_reducible apply pu_mCut | with_reducible apply pu_oAt | with_reducible apply pu_mChain | with_reducible apply pui_mIt | with_reducible apply pui_mItL | with_reducible apply pu_mComp | with_reducible apply ps_seq | with_reducible apply ps_expr | with_reducible apply ps_ret | with_reducible apply ps_if | with_reducible apply ps_asg | with_reducible apply ps_par | with_reducible apply pug_tp | with_reducible apply pug_cons | with_reducible apply ps_for | with_reducible apply ps_try | with_reducible apply pf_runB | with_reducible apply pu_mLam | with_reducible apply pu_mHof | with_reducible assumption)
theorem ps__law_told (act : Env' → M D) (h : PureE act) : PureS (b__law_told act) := by unfold b__law_told; repeat (first | with_reducible exact pu_vr _ | with_reducible exact pu_cst _ | with_reducible exact pu_mNil | with_reducible exact pu_oNo | with_reducible exact pu_yes | with_reducible exact pug_gNm _ | with_reducible exact pug_nil | with_reducible exact ps_nx | with_reducible exact ps_brk | with_reducible exact ps_cnt | with_reducible exact ps_retN | with_reducible exact ps_raise _ | with_reducible exact pu_dAdd | with_reducible exact pu_dSub | with_reducible exact pu_dMulX | with_reducible exact pu_dMul | with_reducible exact pu_dMod | with_reducible exact pu_dFdiv | with_reducible exact pu_dPow | with_reducible exact pu_dShl | with_reducible exact pu_dShr | with_reducible exact pu_dEq | with_reducible exact pu_dNe | with_reducible exact pu_dLt | with_reducible exact pu_dLe | with_reducible exact pu_dGt | with_reducible exact pu_dGe | with_reducible exact pu_dMax | with_reducible exact pu_dMin | with_reducible exact pu_dInG _ | with_reducible exact pu_dIx | with_reducible exact pu_dCut | with_reducible exact pu_dNeg | with_reducible exact pu_dAbs | with_reducible exact pu_dInt1 | with_reducible exact pu_dStr1 | with_reducible exact pu_dLen | with_reducible exact pu_dTuple | with_reducible exact pu_dList | with_reducible exact pu_dSum | with_reducible exact pu_dAll | with_reducible exact pu_dAny | with_reducible exact pu_kLst | with_reducible exact pu_kStr | with_reducible exact pu_dJoin | with_reducible exact pu_dIndex | with_reducible exact pu_dIsN | with_reducible exact pu_dNotN | with_reducible exact pu_dIsStr | with_reducible exact pu_dIsInt | with_reducible exact pu_dIsBool | with_reducible exact pu_dIsTup | with_reducible exact pu_dRev | with_reducible exact pui_itR1 | with_reducible exact pui_itR2 | with_reducible exact pui_itR3 | with_reducible exact pui_itEnum | with_reducible exact pui_itZip | with_reducible apply pu_m2 | with_reducible apply pu_m1 | with_reducible apply pu_mB | with_reducible apply pu_mAnd | with_reducible apply pu_mOr | with_reducible apply pu_mNot | with_reducible apply pu_mIf | with_reducible apply pu_vAnd | with_reducible apply pu_vOr | with_reducible apply pu_vNot | with_reducible apply pu_mCons | with_reducible apply pu_mTup | with_reducible apply pu_mLst | with_reducible apply pu_mCall | with_reducible apply pu_mCall0 | with_reducible apply pu_mFn | with_reducible apply pu_f1 | with_reducible apply pu_f2 | with_reducible apply pu_mMeth | with_reducible apply pu_mCut | with_reducible apply pu_oAt | with_reducible apply pu_mChain | with_reducible apply pui_mIt | with_reducible apply pui_mItL | with_reducible apply pu_mComp | with_reducible apply ps_seq | with_reducible apply ps_expr | with_reducible apply ps_ret | with_reducible apply ps_if | with_reducible apply ps_asg | with_reducible apply ps_par | with_reducible apply pug_tp | with_reducible apply pug_cons | with_reducible apply ps_for | with_reducible apply ps_try | with_reducible apply pf_runB | with_reducible apply pu_mLam | with_reducible apply pu_mHof | with_reducible assumption)
theorem pf__law_all_refused (mf : List D → M D) (h : PureF mf) : PureF (m__law_all_refused mf) := by unfold m__law_all_refused b__law_all_refused; repeat (first | (first | with_reducible exact pu_vr _ | with_reducible exact pu_cst _ | with_reducible exact pu_mNil | with_reducible exact pu_oNo | with_reducible exact pu_yes | with_reducible exact pug_gNm _ | with_reducible exact pug_nil | with_reducible exact ps_nx | with_reducible exact ps_brk | with_reducible exact ps_cnt | with_reducible exact ps_retN | with_reducible exact ps_raise _ | with_reducible exact pu_dAdd | with_reducible exact pu_dSub | with_reducible exact pu_dMulX | with_reducible exact pu_dMul | with_reducible exact pu_dMod | with_reducible exact pu_dFdiv | with_reducible exact pu_dPow | with_reducible exact pu_dShl | with_reducible exact pu_dShr | with_reducible exact pu_dEq | with_reducible exact pu_dNe | with_reducible exact pu_dLt | with_reducible exact pu_dLe | with_reducible exact pu_dGt | with_reducible exact pu_dGe | with_reducible exact pu_dMax | with_reducible exact pu_dMin | with_reducible exact pu_dInG _ | with_reducible exact pu_dIx | with_reducible exact pu_dCut | with_reducible exact pu_dNeg | with_reducible exact pu_dAbs | with_reducible exact pu_dInt1 | with_reducible exact pu_dStr1 | with_reducible exact pu_dLen | with_reducible exact pu_dTuple | with_reducible exact pu_dList | with_reducible exact pu_dSum | with_reducible exact pu_dAll | with_reducible exact pu_dAny | with_reducible exact pu_kLst | with_reducible exact pu_kStr | with_reducible exact pu_dJoin | with_reducible exact pu_dIndex | with_reducible exact pu_dIsN | with_reducible exact pu_dNotN | with_reducible exact pu_dIsStr | with_reducible exact pu_dIsInt | with_reducible exact pu_dIsBool | with_reducible exact pu_dIsTup | with_reducible exact pu_dRev | with_reducible exact pui_itR1 | with_reducible exact pui_itR2 | with_reducible exact pui_itR3 | with_reducible exact pui_itEnum | with_reducible exact pui_itZip | with_reducible apply pu_m2 | with_reducible apply pu_m1 | with_reducible apply pu_mB | with_reducible apply pu_mAnd | with_reducible apply pu_mOr | with_reducible apply pu_mNot | with_reducible apply pu_mIf | with_reducible apply pu_vAnd | with_reducible apply pu_vOr | with_reducible apply pu_vNot | with_reducible apply pu_mCons | with_reducible apply pu_mTup | with_reducible apply pu_mLst | with_reducible apply pu_mCall | with_reducible apply pu_mCall0 | with_reducible apply pu_mFn | with_reducible apply pu_f1 | with_reducible apply pu_f2 | with_reducible apply pu_mMeth | with_reducible apply pu_mCut | with_reducible apply pu_oAt | with_reducible apply pu_mChain | with_reducible apply pui_mIt | with_reducible apply pui_mItL | with_reducible apply pu_mComp | with_reducible apply ps_seq | with_reducible apply ps_expr | with_reducible apply ps_ret | with_reducible apply ps_if | with_reducible apply ps_asg | with_reducible apply ps_par | with_reducible apply pug_tp | with_reducible apply pug_cons | with_reducible apply ps_for | with_reducible apply ps_try | with_reducible apply pf_runB | with_reducible apply pu_mLam | with_reducible apply pu_mHof | with_reducible assumption) | exact ps__law_error)
theorem pf__law_bad_signs : PureF m__law_bad_signs := by unfold m__law_bad_signs b__law_bad_signs; repeat (first | with_reducible exact pu_vr _ | with_reducible exact pu_cst _ | with_reducible exact pu_mNil | with_reducible exact pu_oNo | with_reducible exact pu_yes | with_reducible exact pug_gNm _ | with_reducible exact pug_nil | with_reducible exact ps_nx | with_reducible exact ps_brk | with_reducible exact ps_cnt | with_reducible exact ps_retN | with_reducible exact ps_raise _ | with_reducible exact pu_dAdd | with_reducible exact pu_dSub | with_reducible exact pu_dMulX | with_reducible exact pu_dMul | with_reducible exact pu_dMod | with_reducible exact pu_dFdiv | with_reducible exact pu_dPow | with_reducible exact pu_dShl | with_reducible exact pu_dShr | with_reducible exact pu_dEq | with_reducible exact pu_dNe | with_reducible exact pu_dLt | with_reducible exact pu_dLe | with_reducible exact pu_dGt | with_reducible exact pu_dGe | with_reducible exact pu_dMax | with_reducible exact pu_dMin | with_reducible exact pu_dInG _ | with_reducible exact pu_dIx | with_reducible exact pu_dCut | with_reducible exact pu_dNeg | with_reducible exact pu_dAbs | with_reducible exact pu_dInt1 | with_reducible exact pu_dStr1 | with_reducible exact pu_dLen | with_reducible exact pu_dTuple | with_reducible exact pu_dList | with_reducible exact pu_dSum | with_reducible exact pu_dAll | with_reducible exact pu_dAny | with_reducible exact pu_kLst | with_reducible exact pu_kStr | with_reducible exact pu_dJoin | with_reducible exact pu_dIndex | with_reducible exact pu_dIsN | with_reducible exact pu_dNotN | with_reducible exact pu_dIsStr | with_reducible exact pu_dIsInt | with_reducible exact pu_dIsBool | with_reducible exact pu_dIsTup | with_reducible exact pu_dRev | with_reducible exact pui_itR1 | with_reducible exact pui_itR2 | with_reducible exact pui_itR3 | with_reducible exact pui_itEnum | with_reducible exact pui_itZip | with_reducible apply pu_m2 | with_reducible apply pu_m1 | with_reducible apply pu_mB | with_reducible apply pu_mAnd | with_reducible apply pu_mOr | with_reducible apply pu_mNot | with_reducible apply pu_mIf | with_reducible apply pu_vAnd | with_reducible apply pu_vOr | with_reducible apply pu_vNot | with_reducible apply pu_mCons | with_reducible apply pu_mTup | with_reducible apply pu_mLst | with_reducible apply pu_mCall | with_reducible apply pu_mCall0 | with_reducible apply pu_mFn | with_reducible apply pu_f1 | with_reducible apply pu_f2 | with_reducible apply pu_mMeth | with_reducible apply pu_mCut | with_reducible apply pu_oAt | with_reducible apply pu_mChain | with_reducible apply pui_mIt | with_reducible apply pui_mItL | with_reducible apply pu_mComp | with_reducible apply ps_seq | with_reducible apply ps_expr | with_reducible apply ps_ret | with_reducible apply ps_if | with_reducible apply ps_asg | with_reducible apply ps_par | with_reducible apply pug_tp | with_reducible apply pug_cons | with_reducible apply ps_for | with_reducible apply ps_try | with_reducible apply pf_runB | with_reducible apply pu_mLam | with_reducible apply pu_mHof | with_reducible assumption)
end K07
namespace K07
open DL
/-! ### the vat -/
abbrev vatC (a b : Int) : Cell := .lst [.int a, .int b]
theorem vat0 {st : Store} {n : Nat} {a b : Int} (h : st[n]? = some (vatC a b)) : dIx (.cel n) (.int 0) st = .ok (.int a) st := by
  simp [dIx, bnd, lLst, h, atD, L2.ixN, ret]
theorem vat1 {st : Store} {n : Nat} {a b : Int} (h : st[n]? = some (vatC a b)) : dIx (.cel n) (.int 1) st = .ok (.int b) st := by
  simp [dIx, bnd, lLst, h, atD, L2.ixN, ret]
theorem vset0 {st : Store} {n : Nat} {a b : Int} {d : D} (h : st[n]? = some (vatC a b)) : setIxX (.cel n) (.int 0) d st = .ok .non (st.set n (.lst [d, .int b])) := by
  simp [setIxX, setIx, bnd, celL, h, L2.ixN, putC, ret]
theorem vset1 {st : Store} {n : Nat} {a b : Int} {d : D} (h : st[n]? = some (vatC a b)) : setIxX (.cel n) (.int 1) d st = .ok .non (st.set n (.lst [.int a, d])) := by
  simp [setIxX, setIx, bnd, celL, h, L2.ixN, putC, ret]
theorem set_at {st : Store} {n : Nat} {c c' : Cell} (h : st[n]? = some c) : (st.set n c')[n]? = some c' := List.getElem?_set_self (List.getElem?_eq_some_iff.mp h).1
theorem log_lt {j : Int} (h0 : 0 < j) (h : j < 2 ^ 40) : j.natAbs.log2 < 9000 := by
  have : j.natAbs.log2 < 40 := (Nat.log2_lt (by omega)).mpr (by omega)
  omega
theorem mul_ok {i j : Int} (h : i.natAbs < 2 ^ 64) (st : Store) : dMulX (.int i) (.int j) st = .ok (.int (i * j)) st := by
  have : mulOk i j = true := by unfold mulOk; simp [h]
  simp [dMulX, dMul, dMulI, i2, chk, this, ret]
theorem under_ok {st : Store} {n : Nat} {a b many : Int} (h : st[n]? = some (vatC a b)) (ha : 0 ≤ a) (hb : 0 ≤ b) (hb2 : b < 2 ^ 31) (hm : 0 < many) (hm2 : many < 2 ^ 40) :
    ∃ r a' b', m__law_under [.cel n, .int many] st = .ok (.int r) (st.set n (vatC a' b')) ∧ 0 ≤ r ∧ r < many ∧ 0 ≤ a' ∧ 0 ≤ b' ∧ b' < 2 ^ 31 := by
  have hlog := log_lt hm hm2
  by_cases ha0 : 0 < a
  · refine ⟨a % many, a / many, b, ?_, Int.emod_nonneg _ (by omega), Int.emod_lt_of_pos _ hm, Int.ediv_nonneg ha (by omega), hb, hb2⟩
    unfold m__law_under b__law_under runB
    simp [sSeq, sIf, sB, sAsg, sRet, sG, mB, m2, bnd, vr, cst, ret, vat0 h, dGt, i2, asB, mFn, mCons, mNil, f1, dInt1, dMod, dFdiv, chk, gNm, gSubX, ha0, hm, hlog, vset0 h, endOk]
  · have ea : a = 0 := by omega
    subst ea
    have c1 : b.natAbs < 2 ^ 64 := by omega
    let b1 : Int := (b * 39373 + 101) % 2147483629
    have b10 : 0 ≤ b1 := Int.emod_nonneg _ (by decide)
    have b11 : b1 < 2147483629 := Int.emod_lt_of_pos _ (by decide)
    have c2 : b1.natAbs < 2 ^ 64 := by omega
    have h2 : (st.set n (vatC 0 b1))[n]? = some (vatC 0 b1) := set_at h
    let wd : Int := (b1 * (b1 / 5 + 9)) % 2147483587
    refine ⟨wd / 32 % many, 0, b1, ?_, Int.emod_nonneg _ (by omega), Int.emod_lt_of_pos _ hm, Int.le_refl _, b10, by omega⟩
    have e1 : dMod (.int (b * 39373 + 101)) (.int 2147483629) = ret (.int b1) := by simp [dMod, i2, chk, b1]
    have e2 : dMod (.int (b1 * (b1 / 5 + 9))) (.int 2147483587) = ret (.int wd) := by simp [dMod, i2, chk, wd]
    have e3 : dMod (.int (wd / 32)) (.int many) = ret (.int (wd / 32 % many)) := by simp [dMod, i2, chk, hm]
    have l5 : Nat.log2 5 < 9000 := by decide +kernel
    have l32 : Nat.log2 32 < 9000 := by decide +kernel
    have e4 : dFdiv (.int b1) (.int 5) = ret (.int (b1 / 5)) := by simp [dFdiv, i2, chk, l5]
    have e5 : dFdiv (.int wd) (.int 32) = ret (.int (wd / 32)) := by simp [dFdiv, i2, chk, l32]
    unfold m__law_under b__law_under runB
    simp [sSeq, sIf, sB, sAsg, sRet, sG, mB, m2, bnd, vr, cst, ret, vat0 h, vat1 h, vat1 h2, dGt, i2, asB, mFn, mCons, mNil, f1, dInt1, gNm, gSubX, vset1 h, endOk, mul_ok c1, mul_ok c2, dAdd, sNx, e1, e2, e3, e4, e5]
theorem some_ok {st : Store} {n : Nat} {a b : Int} {xs : List D} (h : st[n]? = some (vatC a b)) (ha : 0 ≤ a) (hb : 0 ≤ b) (hb2 : b < 2 ^ 31) (hx : 0 < xs.length) (hx2 : xs.length < 1000) :
    ∃ d a' b', m__law_some [.cel n, .lst xs] st = .ok d (st.set n (vatC a' b')) ∧ d ∈ xs ∧ 0 ≤ a' ∧ 0 ≤ b' ∧ b' < 2 ^ 31 := by
  obtain ⟨r, a', b', e, r0, r1, q⟩ := under_ok h ha hb hb2 (many := (xs.length : Int)) (by omega) (by omega)
  obtain ⟨k, rfl⟩ := Int.eq_ofNat_of_zero_le r0
  have hk : k < xs.length := by omega
  refine ⟨xs[k], a', b', ?_, List.getElem_mem hk, q⟩
  have hx3 : L2.ixN xs.length (k : Int) = some k := by
    unfold L2.ixN
    simp [hk]
  unfold m__law_some b__law_some runB
  simp [sRet, sB, m2, bnd, vr, ret, mCall, mCons, mNil, mFn, f1, dLen, lLst, chk, e, dIx, atD, hx3, hk, endOk]
theorem cmpL_step {g : GM} {tt : Env' → M Bool} {e : Env' → M D} {ρ ρ1 : Env'} {x y : D} {xs ys : List D} {st st1 st2 : Store} (h1 : g x ρ st = .ok ρ1 st) (h2 : tt ρ1 st = .ok true st) (h3 : e ρ1 st = .ok y st1) (h4 : cmpL always g tt e ρ xs st1 = .ok ys st2) :
    cmpL always g tt e ρ (x :: xs) st = .ok (y :: ys) st2 := by
  unfold cmpL
  simp only [always, bnd, h1, h2, h3, h4, ret]
def Sgn (d : D) : Prop := d = .str [45] ∨ d = .str [43]
theorem cmp_ok {n : Nat} : ∀ (xs : List D) (st : Store) (ρ : Env') (a b : Int), ρ[0]? = some (some (.cel n)) → 2 < ρ.length → st[n]? = some (vatC a b) → 0 ≤ a → 0 ≤ b → b < 2 ^ 31 →
    ∃ ys a' b', cmpL always (CT.nm 2).gm yes (mCall 2 m__law_some (mCons (vr 0) (mCons (mLst (mCons (cst (.str [45])) (mCons (cst (.str [43])) mNil))) mNil))) ρ xs st = .ok ys (st.set n (vatC a' b')) ∧ ys.length = xs.length ∧ (∀ y ∈ ys, Sgn y) ∧ 0 ≤ a' ∧ 0 ≤ b' ∧ b' < 2 ^ 31
  | [], st, ρ, a, b, h0, hl, h, ha, hb, hb2 => ⟨[], a, b, by
      have : st.set n (vatC a b) = st := by
        refine List.ext_getElem? fun j => ?_
        by_cases hj : n = j
        · subst hj
          rw [set_at h, h]
        · rw [List.getElem?_set_ne hj]
      rw [this]
      rfl, rfl, (fun y hy => by cases hy), ha, hb, hb2⟩
  | x :: xs, st, ρ, a, b, h0, hl, h, ha, hb, hb2 => by
    obtain ⟨d, a1, b1, e, hd, q1, q2, q3⟩ := some_ok (xs := [.str [45], .str [43]]) h ha hb hb2 (by decide) (by decide)
    obtain ⟨ys, a2, b2, e2, l2, m2', p⟩ := cmp_ok xs (st.set n (vatC a1 b1)) ρ a1 b1 h0 hl (set_at h) q1 q2 q3
    rw [List.set_set] at e2
    refine ⟨d :: ys, a2, b2, ?_, by simp [l2], fun y hy => ?_, p⟩
    · have e3 : (mCall 2 m__law_some (mCons (vr 0) (mCons (mLst (mCons (cst (.str [45])) (mCons (cst (.str [43])) mNil))) mNil))) (ρ.set 2 (some x)) st = .ok d (st.set n (vatC a1 b1)) := by
        have h0' : (ρ.set 2 (some x))[0]? = some (some (.cel n)) := by
          rw [List.getElem?_set_ne (by decide)]
          exact h0
        simp [mCall, mCons, mNil, mLst, cst, vr, h0', bnd, ret, chk, e, LIM]
      exact cmpL_step rfl rfl e3 e2
    · rcases List.mem_cons.mp hy with rfl | hy
      · rcases List.mem_cons.mp hd with rfl | hd
        · exact .inl rfl
        · rcases List.mem_cons.mp hd with rfl | hd
          · exact .inr rfl
          · cases hd
      · exact m2' y hy
theorem strs_of : ∀ (ys : List D), (∀ y ∈ ys, Sgn y) → ∃ ss : List (List Nat), strs' ys = some ss ∧ ss.length = ys.length ∧ (∀ s ∈ ss, s = [45] ∨ s = [43])
  | [], _ => ⟨[], rfl, rfl, fun s h => by cases h⟩
  | y :: ys, h => by
    obtain ⟨ss, e1, e2, e3⟩ := strs_of ys fun z hz => h z (List.mem_cons_of_mem _ hz)
    rcases h y List.mem_cons_self with rfl | rfl
    · exact ⟨[45] :: ss, by simp [strs', e1], by simp [e2], fun s hs => (List.mem_cons.mp hs).elim (fun q => .inl q) (e3 s)⟩
    · exact ⟨[43] :: ss, by simp [strs', e1], by simp [e2], fun s hs => (List.mem_cons.mp hs).elim (fun q => .inr q) (e3 s)⟩
theorem join_signs : ∀ (ss : List (List Nat)), (∀ s ∈ ss, s = [45] ∨ s = [43]) → (joinS [] ss).length = ss.length ∧ (∀ c ∈ joinS [] ss, c = 45 ∨ c = 43) ∧ (ss.map List.length).sum = ss.length
  | [], _ => ⟨rfl, fun c h => (by cases h), rfl⟩
  | [s], h => by
    rcases h s List.mem_cons_self with rfl | rfl
    · exact ⟨rfl, fun c hc => .inl (by simpa [joinS] using hc), rfl⟩
    · exact ⟨rfl, fun c hc => .inr (by simpa [joinS] using hc), rfl⟩
  | s :: t :: r, h => by
    obtain ⟨e1, e2, e3⟩ := join_signs (t :: r) fun z hz => h z (List.mem_cons_of_mem _ hz)
    have ej : joinS [] (s :: t :: r) = s ++ joinS [] (t :: r) := by simp [joinS]
    rw [ej]
    rcases h s List.mem_cons_self with rfl | rfl
    · refine ⟨by simp [e1], fun c hc => ?_, by simp only [List.map_cons, List.sum_cons, List.length_cons] at e3 ⊢; simp at e3 ⊢; omega⟩
      rcases List.mem_append.mp hc with z | z
      · exact .inl (by simpa using z)
      · exact e2 c z
    · refine ⟨by simp [e1], fun c hc => ?_, by simp only [List.map_cons, List.sum_cons, List.length_cons] at e3 ⊢; simp at e3 ⊢; omega⟩
      rcases List.mem_append.mp hc with z | z
      · exact .inr (by simpa using z)
      · exact e2 c z
theorem signs_ok {st : Store} {n : Nat} {a b : Int} (h : st[n]? = some (vatC a b)) (ha : 0 ≤ a) (hb : 0 ≤ b) (hb2 : b < 2 ^ 31) (most : Nat) (hmo : most < 100) :
    ∃ s a' b', m__law_signs [.cel n, .int most] st = .ok (.str s) (st.set n (vatC a' b')) ∧ s.length ≤ most ∧ (∀ c ∈ s, c = 45 ∨ c = 43) ∧ 0 ≤ a' ∧ 0 ≤ b' ∧ b' < 2 ^ 31 := by
  obtain ⟨r, a1, b1, e, r0, r1, q1, q2, q3⟩ := under_ok h ha hb hb2 (many := (most : Int) + 1) (by omega) (by omega)
  obtain ⟨ys, a2, b2, e2, l2, mm2, p⟩ := cmp_ok (n := n) (rngL 0 r.toNat) (st.set n (vatC a1 b1)) (wipeE [some (.cel n), some (.int most), none] [2]) a1 b1 rfl (by simp [wipeE]) (set_at h) q1 q2 q3
  rw [List.set_set] at e2
  have lr : (rngL 0 r.toNat).length = r.toNat := by simp [rngL]
  obtain ⟨ss, s1, s2, s3⟩ := strs_of ys mm2
  obtain ⟨j1, j2, j3⟩ := join_signs ss s3
  have l3 : ss.length = r.toNat := by rw [s2, l2, lr]
  refine ⟨joinS [] ss, a2, b2, ?_, by omega, j2, p⟩
  have k1 : rOk r = true := by unfold rOk; simp; omega
  have k2 : decide ((rngL 0 r.toNat).length ≤ LIM) = true := by rw [lr]; unfold LIM; simp; omega
  have k3 : decide ((ss.map List.length).sum + ss.length * 0 ≤ LIM) = true := by rw [j3]; unfold LIM; simp; omega
  have kc : mComp [2] (.nm 2) (mItL itR1 (mCons (mCall 2 m__law_under (mCons (vr 0) (mCons (m2 dAdd (vr 1) (cst (.int 1))) mNil))) mNil)) yes (mCall 2 m__law_some (mCons (vr 0) (mCons (mLst (mCons (cst (.str [45])) (mCons (cst (.str [43])) mNil))) mNil))) [some (.cel n), some (.int most), none] st = .ok (.lst ys) (st.set n (vatC a2 b2)) := by
    have hi : mItL itR1 (mCons (mCall 2 m__law_under (mCons (vr 0) (mCons (m2 dAdd (vr 1) (cst (.int 1))) mNil))) mNil) [some (.cel n), some (.int most), none] st = .ok ⟨rngL 0 r.toNat, always⟩ (st.set n (vatC a1 b1)) := by
      simp [mItL, mCons, mNil, mCall, vr, cst, DL.m2, dAdd, bnd, ret, chk, e, itR1, k1]
    unfold mComp
    unfold bnd
    rw [hi]
    dsimp only
    rw [k2]
    simp only [chk, noEx, e2, ret]
  have k4 : ss.length ≤ LIM := by unfold LIM; omega
  unfold m__law_signs b__law_signs runB
  simp [sRet, sB, mMeth, cst, ret, bnd, kStr, mCons, mNil, kc, dJoin, lLst, s1, chk, endOk, j3, k4]
theorem seq3 {a b c : MS} {ρ ρ' : Env'} {st st' : Store} (h : sSeq a b ρ st = .nx ρ' st') : sSeq a (sSeq b c) ρ st = c ρ' st' := by
  unfold sSeq at h ⊢
  cases q : a ρ st with
  | nx ρ1 st1 =>
    rw [q] at h
    dsimp only at h ⊢
    rw [h]
  | rt d st1 => rw [q] at h; cases h
  | bk ρ1 st1 => rw [q] at h; cases h
  | ct ρ1 st1 => rw [q] at h; cases h
  | exc c ρ1 st1 => rw [q] at h; cases h
  | bad => rw [q] at h; cases h
theorem vat_ok {st : Store} {ns : List Int} {d : D} (hd : d = D.scr (ns.map D.int) ∨ d = D.lst (ns.map D.int)) {k : Nat} (hk : k < 100) :
    ∃ a b, m__law_vat [d, .int k] st = .ok (.cel st.length) (st ++ [vatC a b]) ∧ 0 ≤ a ∧ 0 ≤ b ∧ b < 2 ^ 31 := by
  have hlen : dLen d = ret (.int ns.length) := by
    rcases hd with rfl | rfl
    · simp [dLen]
    · simp only [dLen]
      funext st
      simp [bnd, lLst, ret]
  have hix : ∀ (h : k < ns.length), dIx d (.int k) = ret (.int ns[k]) := fun h => by
    have h3 : L2.ixN ns.length (k : Int) = some k := by
      unfold L2.ixN
      simp [h]
    rcases hd with rfl | rfl
    · simp [dIx, atD, h3, h]
    · simp only [dIx]
      funext st
      simp [bnd, lLst, ret, atD, h3, h]
  -- the cell
  have key : ∀ c : Int, 0 ≤ c → ∃ a b, (sRet (mCel (mCons (mIf (mB (m2 dGe (vr 2) (m2 dPow (cst (.int 10)) (cst (.int 18))))) (vr 2) (cst (.int 0))) (mCons (m2 dAdd (m2 dMod (mFn (f1 dInt1) (mCons (m2 dAdd (m2 dAdd (m2 dMulX (vr 2) (cst (.int 131071))) (m2 dMulX (cst (.int 8191)) (vr 1))) (cst (.int 5))) mNil)) (cst (.int 2147483629))) (cst (.int 1))) mNil)))) [some d, some (.int k), some (.int c)] st = .rt (.cel st.length) (st ++ [vatC a b]) ∧ 0 ≤ a ∧ 0 ≤ b ∧ b < 2 ^ 31 := fun c hc => by
    have p1 : dMulX (.int c) (.int 131071) = ret (.int (c * 131071)) := by
      funext s
      have : mulOk c 131071 = true := by unfold mulOk; simp
      simp [dMulX, dMul, dMulI, i2, chk, this, ret]
    have p2 : dMulX (.int 8191) (.int k) = ret (.int (8191 * k)) := by
      funext s
      have : mulOk 8191 k = true := by unfold mulOk; simp
      simp [dMulX, dMul, dMulI, i2, chk, this, ret]
    have p3 : dPow (.int 10) (.int 18) = ret (.int (10 ^ 18)) := by
      have : powOk 10 18 = true := by decide +kernel
      simp [dPow, i2, chk, this]
    have p4 : dMod (.int (c * 131071 + 8191 * k + 5)) (.int 2147483629) = ret (.int ((c * 131071 + 8191 * k + 5) % 2147483629)) := by simp [dMod, i2, chk]
    have b0 : 0 ≤ (c * 131071 + 8191 * (k : Int) + 5) % 2147483629 := Int.emod_nonneg _ (by decide)
    have b1 : (c * 131071 + 8191 * (k : Int) + 5) % 2147483629 < 2147483629 := Int.emod_lt_of_pos _ (by decide)
    refine ⟨if (1000000000000000000 : Int) ≤ c then c else 0, (c * 131071 + 8191 * (k : Int) + 5) % 2147483629 + 1, ?_, by split <;> omega, by omega, by omega⟩
    by_cases hc2 : (1000000000000000000 : Int) ≤ c
    · simp [sRet, sB, mCel, mCons, mNil, mIf, mB, DL.m2, vr, cst, ret, bnd, p1, p2, p3, p4, asB, dGe, i2, mFn, f1, dInt1, dAdd, chk, LIM, newCell, hc2]
    · simp [sRet, sB, mCel, mCons, mNil, mIf, mB, DL.m2, vr, cst, ret, bnd, p1, p2, p3, p4, asB, dGe, i2, mFn, f1, dInt1, dAdd, chk, LIM, newCell, hc2]
  have p5 : dMulX (.int 7919) (.int k) = ret (.int (7919 * k)) := by
    funext s
    have : mulOk 7919 k = true := by unfold mulOk; simp
    simp [dMulX, dMul, dMulI, i2, chk, this, ret]
  have run : ∀ (c : Int), 0 ≤ c → (sSeq (sAsg (DL.m2 dAdd (DL.m2 dMulX (cst (.int 7919)) (vr 1)) (cst (.int 43))) (gNm 2)) (sIf (mB (DL.m2 dLt (vr 1) (mFn (f1 dLen) (mCons (vr 0) mNil)))) (sAsg (mFn (f1 dAbs) (mCons (mFn (f1 dInt1) (mCons (DL.m2 dIx (vr 0) (vr 1)) mNil)) mNil)) (gNm 2)) sNx)) [some d, some (.int k), none] st = .nx [some d, some (.int k), some (.int c)] st → ∃ a b, m__law_vat [d, .int k] st = .ok (.cel st.length) (st ++ [vatC a b]) ∧ 0 ≤ a ∧ 0 ≤ b ∧ b < 2 ^ 31 := fun c hc h => by
    obtain ⟨a, b, e, q⟩ := key c hc
    refine ⟨a, b, ?_, q⟩
    have e2 : b__law_vat [some d, some (.int k), none] st = .rt (.cel st.length) (st ++ [vatC a b]) := by
      unfold b__law_vat
      rw [← e]
      exact seq3 h
    unfold m__law_vat runB
    simp only [List.length_cons, List.length_nil, List.map_cons, List.map_nil, List.replicate, List.cons_append, List.nil_append, decide_true]
    rw [e2]
  by_cases hlt : k < ns.length
  · refine run (if ns[k] < 0 then -ns[k] else ns[k]) (by split <;> omega) ?_
    have hk2 : ((k : Int) < (ns.length : Int)) := by omega
    simp [sSeq, sAsg, sIf, sB, sG, DL.m2, vr, cst, ret, bnd, p5, dAdd, gNm, mB, asB, mFn, f1, mCons, mNil, hlen, dLt, i2, hk2, hix hlt, dInt1, dAbs]
  · refine run (7919 * k + 43) (by omega) ?_
    have hk2 : ¬ ((k : Int) < (ns.length : Int)) := by omega
    simp [sSeq, sAsg, sIf, sB, sG, DL.m2, vr, cst, ret, bnd, p5, dAdd, gNm, mB, asB, mFn, f1, mCons, mNil, hlen, dLt, i2, hk2, sNx]
end K07
namespace K07
open DL
def EV : List (L2.Key × D) := [(.inr ⟨#[48]⟩, .str []),
  (.inr ⟨#[49, 45]⟩, .str [45]),
  (.inr ⟨#[49, 43]⟩, .str [43]),
  (.inr ⟨#[50, 45]⟩, .str [45, 45]),
  (.inr ⟨#[49, 45, 49, 43]⟩, .str [45, 43]),
  (.inr ⟨#[49, 43, 49, 45]⟩, .str [43, 45]),
  (.inr ⟨#[50, 43]⟩, .str [43, 43]),
  (.inr ⟨#[51, 45]⟩, .str [45, 45, 45]),
  (.inr ⟨#[50, 45, 49, 43]⟩, .str [45, 45, 43]),
  (.inr ⟨#[49, 45, 49, 43, 49, 45]⟩, .str [45, 43, 45]),
  (.inr ⟨#[49, 45, 50, 43]⟩, .str [45, 43, 43]),
  (.inr ⟨#[49, 43, 50, 45]⟩, .str [43, 45, 45]),
  (.inr ⟨#[49, 43, 49, 45, 49, 43]⟩, .str [43, 45, 43]),
  (.inr ⟨#[50, 43, 49, 45]⟩, .str [43, 43, 45]),
  (.inr ⟨#[51, 43]⟩, .str [43, 43, 43]),
  (.inr ⟨#[52, 45]⟩, .str [45, 45, 45, 45]),
  (.inr ⟨#[51, 45, 49, 43]⟩, .str [45, 45, 45, 43]),
  (.inr ⟨#[50, 45, 49, 43, 49, 45]⟩, .str [45, 45, 43, 45]),
  (.inr ⟨#[50, 45, 50, 43]⟩, .str [45, 45, 43, 43]),
  (.inr ⟨#[49, 45, 49, 43, 50, 45]⟩, .str [45, 43, 45, 45]),
  (.inr ⟨#[49, 45, 49, 43, 49, 45, 49, 43]⟩, .str [45, 43, 45, 43]),
  (.inr ⟨#[49, 45, 50, 43, 49, 45]⟩, .str [45, 43, 43, 45]),
  (.inr ⟨#[49, 45, 51, 43]⟩, .str [45, 43, 43, 43]),
  (.inr ⟨#[49, 43, 51, 45]⟩, .str [43, 45, 45, 45]),
  (.inr ⟨#[49, 43, 50, 45, 49, 43]⟩, .str [43, 45, 45, 43]),
  (.inr ⟨#[49, 43, 49, 45, 49, 43, 49, 45]⟩, .str [43, 45, 43, 45]),
  (.inr ⟨#[49, 43, 49, 45, 50, 43]⟩, .str [43, 45, 43, 43]),
  (.inr ⟨#[50, 43, 50, 45]⟩, .str [43, 43, 45, 45]),
  (.inr ⟨#[50, 43, 49, 45, 49, 43]⟩, .str [43, 43, 45, 43]),
  (.inr ⟨#[51, 43, 49, 45]⟩, .str [43, 43, 43, 45]),
  (.inr ⟨#[52, 43]⟩, .str [43, 43, 43, 43]),
  (.inr ⟨#[53, 45]⟩, .str [45, 45, 45, 45, 45]),
  (.inr ⟨#[52, 45, 49, 43]⟩, .str [45, 45, 45, 45, 43]),
  (.inr ⟨#[51, 45, 49, 43, 49, 45]⟩, .str [45, 45, 45, 43, 45]),
  (.inr ⟨#[51, 45, 50, 43]⟩, .str [45, 45, 45, 43, 43]),
  (.inr ⟨#[50, 45, 49, 43, 50, 45]⟩, .str [45, 45, 43, 45, 45]),
  (.inr ⟨#[50, 45, 49, 43, 49, 45, 49, 43]⟩, .str [45, 45, 43, 45, 43]),
  (.inr ⟨#[50, 45, 50, 43, 49, 45]⟩, .str [45, 45, 43, 43, 45]),
  (.inr ⟨#[50, 45, 51, 43]⟩, .str [45, 45, 43, 43, 43]),
  (.inr ⟨#[49, 45, 49, 43, 51, 45]⟩, .str [45, 43, 45, 45, 45]),
  (.inr ⟨#[49, 45, 49, 43, 50, 45, 49, 43]⟩, .str [45, 43, 45, 45, 43]),
  (.inr ⟨#[49, 45, 49, 43, 49, 45, 49, 43, 49, 45]⟩, .str [45, 43, 45, 43, 45]),
  (.inr ⟨#[49, 45, 49, 43, 49, 45, 50, 43]⟩, .str [45, 43, 45, 43, 43]),
  (.inr ⟨#[49, 45, 50, 43, 50, 45]⟩, .str [45, 43, 43, 45, 45]),
  (.inr ⟨#[49, 45, 50, 43, 49, 45, 49, 43]⟩, .str [45, 43, 43, 45, 43]),
  (.inr ⟨#[49, 45, 51, 43, 49, 45]⟩, .str [45, 43, 43, 43, 45]),
  (.inr ⟨#[49, 45, 52, 43]⟩, .str [45, 43, 43, 43, 43]),
  (.inr ⟨#[49, 43, 52, 45]⟩, .str [43, 45, 45, 45, 45]),
  (.inr ⟨#[49, 43, 51, 45, 49, 43]⟩, .str [43, 45, 45, 45, 43]),
  (.inr ⟨#[49, 43, 50, 45, 49, 43, 49, 45]⟩, .str [43, 45, 45, 43, 45]),
  (.inr ⟨#[49, 43, 50, 45, 50, 43]⟩, .str [43, 45, 45, 43, 43]),
  (.inr ⟨#[49, 43, 49, 45, 49, 43, 50, 45]⟩, .str [43, 45, 43, 45, 45]),
  (.inr ⟨#[49, 43, 49, 45, 49, 43, 49, 45, 49, 43]⟩, .str [43, 45, 43, 45, 43]),
  (.inr ⟨#[49, 43, 49, 45, 50, 43, 49, 45]⟩, .str [43, 45, 43, 43, 45]),
  (.inr ⟨#[49, 43, 49, 45, 51, 43]⟩, .str [43, 45, 43, 43, 43]),
  (.inr ⟨#[50, 43, 51, 45]⟩, .str [43, 43, 45, 45, 45]),
  (.inr ⟨#[50, 43, 50, 45, 49, 43]⟩, .str [43, 43, 45, 45, 43]),
  (.inr ⟨#[50, 43, 49, 45, 49, 43, 49, 45]⟩, .str [43, 43, 45, 43, 45]),
  (.inr ⟨#[50, 43, 49, 45, 50, 43]⟩, .str [43, 43, 45, 43, 43]),
  (.inr ⟨#[51, 43, 50, 45]⟩, .str [43, 43, 43, 45, 45]),
  (.inr ⟨#[51, 43, 49, 45, 49, 43]⟩, .str [43, 43, 43, 45, 43]),
  (.inr ⟨#[52, 43, 49, 45]⟩, .str [43, 43, 43, 43, 45]),
  (.inr ⟨#[53, 43]⟩, .str [43, 43, 43, 43, 43])]
def TS : List (List Nat) := [[48],
  [49, 45],
  [49, 43],
  [50, 45],
  [49, 45, 49, 43],
  [49, 43, 49, 45],
  [50, 43],
  [51, 45],
  [50, 45, 49, 43],
  [49, 45, 49, 43, 49, 45],
  [49, 45, 50, 43],
  [49, 43, 50, 45],
  [49, 43, 49, 45, 49, 43],
  [50, 43, 49, 45],
  [51, 43],
  [52, 45],
  [51, 45, 49, 43],
  [50, 45, 49, 43, 49, 45],
  [50, 45, 50, 43],
  [49, 45, 49, 43, 50, 45],
  [49, 45, 49, 43, 49, 45, 49, 43],
  [49, 45, 50, 43, 49, 45],
  [49, 45, 51, 43],
  [49, 43, 51, 45],
  [49, 43, 50, 45, 49, 43],
  [49, 43, 49, 45, 49, 43, 49, 45],
  [49, 43, 49, 45, 50, 43],
  [50, 43, 50, 45],
  [50, 43, 49, 45, 49, 43],
  [51, 43, 49, 45],
  [52, 43],
  [53, 45],
  [52, 45, 49, 43],
  [51, 45, 49, 43, 49, 45],
  [51, 45, 50, 43],
  [50, 45, 49, 43, 50, 45],
  [50, 45, 49, 43, 49, 45, 49, 43],
  [50, 45, 50, 43, 49, 45],
  [50, 45, 51, 43],
  [49, 45, 49, 43, 51, 45],
  [49, 45, 49, 43, 50, 45, 49, 43],
  [49, 45, 49, 43, 49, 45, 49, 43, 49, 45],
  [49, 45, 49, 43, 49, 45, 50, 43],
  [49, 45, 50, 43, 50, 45],
  [49, 45, 50, 43, 49, 45, 49, 43],
  [49, 45, 51, 43, 49, 45],
  [49, 45, 52, 43],
  [49, 43, 52, 45],
  [49, 43, 51, 45, 49, 43],
  [49, 43, 50, 45, 49, 43, 49, 45],
  [49, 43, 50, 45, 50, 43],
  [49, 43, 49, 45, 49, 43, 50, 45],
  [49, 43, 49, 45, 49, 43, 49, 45, 49, 43],
  [49, 43, 49, 45, 50, 43, 49, 45],
  [49, 43, 49, 45, 51, 43],
  [50, 43, 51, 45],
  [50, 43, 50, 45, 49, 43],
  [50, 43, 49, 45, 49, 43, 49, 45],
  [50, 43, 49, 45, 50, 43],
  [51, 43, 50, 45],
  [51, 43, 49, 45, 49, 43],
  [52, 43, 49, 45],
  [53, 43]]
def TV : List Nat := [116, 101, 120, 116, 32, 118, 97, 108, 117, 101]
def dueOf (u : List Nat) : D := match valD EV (.inr ⟨u.toArray⟩) with
  | some v => .tup [v, .str []]
  | none => .tup [.non, .str TV]
def tell (u : List Nat) : M D := mLam 2 b__law_told (mCall 1 m_read_signs (mCons (vr 0) mNil)) [some (.str u)]
def tellOk (u : List Nat) : Bool := match tell u [] with
  | .ok d [] => D.dp 60 d && (D.dp 60 (dueOf u) && D.eqv d (dueOf u))
  | _ => false
def S9 : List (List Nat) := [[45], [43], [49], [50], [48], [53], [32], [49, 45], [120]]
def optOk (t : List Nat) (i : Nat) : Bool := tellOk (t.take i ++ t.drop (i + 1)) && S9.all fun s => tellOk (t.take i ++ s ++ t.drop i) && tellOk (t.take i ++ s ++ t.drop (i + 1))
def textOk (t : List Nat) : Bool := tellOk t.reverse && (List.range (t.length + 1)).all fun i => optOk t i
end K07
namespace K07
open DL
theorem seq_nx {a b : MS} {ρ ρ' : Env'} {st st' : Store} (h : a ρ st = .nx ρ' st') : sSeq a b ρ st = b ρ' st' := by
  unfold sSeq
  rw [h]
theorem pure_nx {b : MS} (hb : PureS b) {ρ ρ' : Env'} (e : b ρ [] = .nx ρ' []) {st : Store} (hs : nhS st = true) : b ρ st = .nx ρ' st := by
  cases hb ρ with
  | nx h0 h => rw [e] at h0; cases h0; exact h st hs
  | rt h0 h => rw [e] at h0; cases h0
  | bk h0 h => rw [e] at h0; cases h0
  | ct h0 h => rw [e] at h0; cases h0
  | exc h0 h => rw [e] at h0; cases h0
  | bad h0 => rw [e] at h0; cases h0
theorem pure_rt {b : MS} (hb : PureS b) {ρ : Env'} {d : D} (e : b ρ [] = .rt d []) {st : Store} (hs : nhS st = true) : b ρ st = .rt d st := by
  cases hb ρ with
  | nx h0 h => rw [e] at h0; cases h0
  | rt h0 h => rw [e] at h0; cases h0; exact h st hs
  | bk h0 h => rw [e] at h0; cases h0
  | ct h0 h => rw [e] at h0; cases h0
  | exc h0 h => rw [e] at h0; cases h0
  | bad h0 => rw [e] at h0; cases h0
theorem asg_ok {m : Env' → M D} {i : Nat} {ρ : Env'} {d : D} {st st' : Store} (h : m ρ st = .ok d st') : sAsg m (gNm i) ρ st = .nx (ρ.set i (some d)) st' := by
  unfold sAsg sB
  rw [h]
  rfl
theorem for_inv {g : GM} {b : MS} (Inv : Env' → Store → Prop) : ∀ (xs : List D), (∀ x ∈ xs, ∀ ρ st, Inv ρ st → ∃ ρ1, g x ρ st = .ok ρ1 st ∧ ∃ ρ2 st2, b ρ1 st = .nx ρ2 st2 ∧ Inv ρ2 st2) →
    ∀ ρ st, Inv ρ st → ∃ ρ' st', forL always g b xs ρ st = .nx ρ' st' ∧ Inv ρ' st'
  | [], _, ρ, st, h => ⟨ρ, st, rfl, h⟩
  | x :: xs, step, ρ, st, h => by
    obtain ⟨ρ1, e1, ρ2, st2, e2, h2⟩ := step x List.mem_cons_self ρ st h
    obtain ⟨ρ3, st3, e3, h3⟩ := for_inv Inv xs (fun y hy => step y (List.mem_cons_of_mem _ hy)) ρ2 st2 h2
    refine ⟨ρ3, st3, ?_, h3⟩
    unfold forL
    simp only [always, e1, e2, lpK]
    exact e3
/-! ### the dict is built and looked through -/
def ρ0 (d : D) : Env' := [some d, none, none, none, none, none, none, none, none, none, none, none, none, none]
def ρ1 (d : D) : Env' := [some d, some (.cel 0), some (.int 5), none, none, none, some (.str [43, 43, 43, 43, 43]), none, none, none, none, none, none, none]
def ρ2 (d : D) : Env' := [some d, some (.cel 0), some (.int 5), some (.str [53, 43]), none, none, some (.str [43, 43, 43, 43, 43]), none, none, none, none, none, none, none]
abbrev sB1 : MS := (sFor (mItL itR1 (mCons (cst (.int 6)) mNil)) (gNm 2) (sFor (mIt (mCall 1 m__law_every (mCons (vr 2) mNil))) (gNm 6) (sAsg (vr 6) (gSubX (vr 1) (mCall 1 m__law_text (mCons (vr 6) mNil))))))
abbrev sB2 : MS := (sForK 1 (gNm 3) (sIf (mOr (mB (m2 dNe (mCall 1 m_signs_text (mCons (mGet (vr 1) (vr 3)) mNil)) (vr 3))) (mB (m2 dNe (mCall 1 m_read_signs (mCons (vr 3) mNil)) (mGet (vr 1) (vr 3))))) (sRet (cst (.bl false))) sNx))
abbrev sB3 : MS := (sIf (mB (m2 dNe (mFn (f1 dLenD) (mCons (vr 1) mNil)) (cst (.int 63)))) (sRet (cst (.bl false))) sNx)
theorem ph0 (d : D) : sAsg (fun _ => newCell (.dct [])) (gNm 1) (ρ0 d) [] = .nx ((ρ0 d).set 1 (some (.cel 0))) [.dct []] := rfl
theorem ph1 (d : D) : sB1 ((ρ0 d).set 1 (some (.cel 0))) [.dct []] = .nx (ρ1 d) [.dct EV] := by kernel_rfl
theorem ph2 (d : D) : sB2 (ρ1 d) [.dct EV] = .nx (ρ2 d) [.dct EV] := by kernel_rfl
theorem ph3 (d : D) : sB3 (ρ2 d) [.dct EV] = .nx (ρ2 d) [.dct EV] := by kernel_rfl
end K07
namespace K07
open DL
/-! ### the signs and their texts -/
def sg : Nat → List (List Nat)
  | 0 => [[]]
  | n + 1 => [] :: (sg n).flatMap fun s => [45 :: s, 43 :: s]
theorem sg_mem : ∀ (n : Nat) (s : List Nat), s.length ≤ n → (∀ c ∈ s, c = 45 ∨ c = 43) → s ∈ sg n
  | 0, [], _, _ => by simp [sg]
  | 0, _ :: _, h, _ => by simp at h
  | n + 1, [], _, _ => by simp [sg]
  | n + 1, c :: s, h, hc => by
    have ih := sg_mem n s (by simpa using h) fun z hz => hc z (List.mem_cons_of_mem _ hz)
    refine List.mem_cons_of_mem _ (List.mem_flatMap.mpr ⟨s, ih, ?_⟩)
    rcases hc c List.mem_cons_self with rfl | rfl <;> simp
def txtOk (s : List Nat) : Bool := match m__law_text [.str s] [] with
  | .ok (.str t) [] => decide (t ∈ TS)
  | _ => false
theorem txt_all : (sg 5).all txtOk = true := by decide +kernel
theorem txt_ok {s : List Nat} (h : s.length ≤ 5) (hc : ∀ c ∈ s, c = 45 ∨ c = 43) {st : Store} (hs : nhS st = true) : ∃ t, m__law_text [.str s] st = .ok (.str t) st ∧ t ∈ TS := by
  have := List.all_eq_true.mp txt_all s (sg_mem 5 s h hc)
  unfold txtOk at this
  split at this
  · rename_i t q
    exact ⟨t, (pf__law_text [.str s]).ok _ _ q |>.2 st hs, of_decide_eq_true this⟩
  · cases this
theorem ts_len : TS.all (fun t => decide (t.length ≤ 10)) = true := by decide +kernel
/-! ### the loop's state -/
structure Inv (d : D) (ρ : Env') (st : Store) : Prop where
  len : ρ.length = 14
  r0 : ρ[0]? = some (some d)
  r1 : ρ[1]? = some (some (.cel 0))
  s0 : st[0]? = some (.dct EV)
  nh : nhS st = true
structure InvV (d : D) (n : Nat) (ρ : Env') (st : Store) : Prop where
  i : Inv d ρ st
  r7 : ρ[7]? = some (some (.cel n))
  n0 : n ≠ 0
  v : ∃ a b, st[n]? = some (vatC a b) ∧ 0 ≤ a ∧ 0 ≤ b ∧ b < 2 ^ 31
theorem nhS_set : ∀ {st : Store} {n : Nat} {c : Cell}, nhS st = true → Cell.nh c = true → nhS (st.set n c) = true
  | [], _, _, h, _ => h
  | x :: r, 0, c, h, hc => by
    have h1 := (Bool.and_eq_true_iff.mp (show (Cell.nh x && nhS r) = true from h)).2
    show (Cell.nh c && nhS r) = true
    rw [hc, h1]; rfl
  | x :: r, n + 1, c, h, hc => by
    have h1 := Bool.and_eq_true_iff.mp (show (Cell.nh x && nhS r) = true from h)
    show (Cell.nh x && nhS (r.set n c)) = true
    rw [h1.1, nhS_set h1.2 hc]; rfl
theorem nhS_app : ∀ {st : Store} {c : Cell}, nhS st = true → Cell.nh c = true → nhS (st ++ [c]) = true
  | [], c, _, hc => by show (Cell.nh c && true) = true; rw [hc]; rfl
  | x :: r, c, h, hc => by
    have h1 := Bool.and_eq_true_iff.mp (show (Cell.nh x && nhS r) = true from h)
    show (Cell.nh x && nhS (r ++ [c])) = true
    rw [h1.1, nhS_app h1.2 hc]; rfl
theorem Inv.set {d : D} {ρ : Env'} {st : Store} (h : Inv d ρ st) {i : Nat} {x : Option D} (h0 : i ≠ 0) (h1 : i ≠ 1) : Inv d (ρ.set i x) st :=
  ⟨by rw [List.length_set]; exact h.len, by rw [List.getElem?_set_ne h0]; exact h.r0, by rw [List.getElem?_set_ne h1]; exact h.r1, h.s0, h.nh⟩
theorem InvV.set {d : D} {n : Nat} {ρ : Env'} {st : Store} (h : InvV d n ρ st) {i : Nat} {x : Option D} (h0 : i ≠ 0) (h1 : i ≠ 1) (h7 : i ≠ 7) : InvV d n (ρ.set i x) st :=
  ⟨h.i.set h0 h1, by rw [List.getElem?_set_ne h7]; exact h.r7, h.n0, h.v⟩
theorem InvV.put {d : D} {n : Nat} {ρ : Env'} {st : Store} (h : InvV d n ρ st) {a b : Int} (ha : 0 ≤ a) (hb : 0 ≤ b) (hb2 : b < 2 ^ 31) : InvV d n ρ (st.set n (vatC a b)) := by
  obtain ⟨a0, b0, e, _⟩ := h.v
  exact ⟨⟨h.i.len, h.i.r0, h.i.r1, by rw [List.getElem?_set_ne h.n0]; exact h.i.s0, nhS_set h.i.nh rfl⟩, h.r7, h.n0, a, b, set_at e, ha, hb, hb2⟩
theorem at_set {ρ : Env'} {i : Nat} {x : Option D} (h : i < ρ.length) : (ρ.set i x)[i]? = some x := List.getElem?_set_self h
/-! ### the inner turn -/
abbrev c1 : MS := (sAsg (mCall 1 m__law_text (mCons (mCall 2 m__law_signs (mCons (vr 7) (mCons (cst (.int 5)) mNil))) mNil)) (gNm 3))
abbrev c2 : MS := (sAsg (mCall 2 m__law_under (mCons (vr 7) (mCons (m2 dAdd (mFn (f1 dLen) (mCons (vr 3) mNil)) (cst (.int 1))) mNil))) (gNm 9))
abbrev c3 : MS := (sAsg (mCall 2 m__law_some (mCons (vr 7) (mCons (mLst (mCons (cst (.str [45])) (mCons (cst (.str [43])) (mCons (cst (.str [49])) (mCons (cst (.str [50])) (mCons (cst (.str [48])) (mCons (cst (.str [53])) (mCons (cst (.str [32])) (mCons (cst (.str [49, 45])) (mCons (cst (.str [120])) mNil)))))))))) mNil))) (gNm 10))
abbrev e4 : Env' → M (List D) := (mCons (m2 dAdd (m2 dAdd (mCut (vr 3) oNo (oAt (vr 9))) (vr 10)) (mCut (vr 3) (oAt (vr 9)) oNo)) (mCons (m2 dAdd (mCut (vr 3) oNo (oAt (vr 9))) (mCut (vr 3) (oAt (m2 dAdd (vr 9) (cst (.int 1)))) oNo)) (mCons (m2 dAdd (m2 dAdd (mCut (vr 3) oNo (oAt (vr 9))) (vr 10)) (mCut (vr 3) (oAt (m2 dAdd (vr 9) (cst (.int 1)))) oNo)) (mCons (m1 dRev (vr 3)) mNil))))
abbrev c4 : MS := (sAsg (mCall 2 m__law_some (mCons (vr 7) (mCons (mLst e4) mNil))) (gNm 11))
abbrev c5 : MS := (sAsg (mIf (mB (mInD false (vr 11) (vr 1))) (mTup (mCons (mGet (vr 1) (vr 11)) (mCons (cst (.str [])) mNil))) (mTup (mCons (cst .non) (mCons (cst (.str [116, 101, 120, 116, 32, 118, 97, 108, 117, 101])) mNil)))) (gNm 12))
abbrev c6 : MS := (sIf (mB (m2 dNe (mLam 2 b__law_told (mCall 1 m_read_signs (mCons (vr 11) mNil))) (vr 12))) (sRet (cst (.bl false))) sNx)
theorem run1 {d : D} {n : Nat} {ρ : Env'} {st : Store} (h : InvV d n ρ st) : ∃ t st', c1 ρ st = .nx (ρ.set 3 (some (.str t))) st' ∧ t ∈ TS ∧ InvV d n (ρ.set 3 (some (.str t))) st' := by
  obtain ⟨a, b, e, ha, hb, hb2⟩ := h.v
  obtain ⟨s, a1, b1, e1, l1, m1, q1, q2, q3⟩ := signs_ok e ha hb hb2 5 (by decide)
  have h' := h.put q1 q2 q3
  obtain ⟨t, e2, ht⟩ := txt_ok l1 m1 h'.i.nh
  refine ⟨t, _, asg_ok ?_, ht, h'.set (by decide) (by decide) (by decide)⟩
  have e1' : m__law_signs [.cel n, .int 5] st = .ok (.str s) (st.set n (vatC a1 b1)) := e1
  simp [mCall, mCons, mNil, vr, h.r7, cst, bnd, ret, chk, e1', e2]
theorem run2 {d : D} {n : Nat} {ρ : Env'} {st : Store} {t : List Nat} (h : InvV d n ρ st) (h3 : ρ[3]? = some (some (.str t))) (ht : t ∈ TS) : ∃ (i : Nat) (st' : Store), c2 ρ st = .nx (ρ.set 9 (some (.int i))) st' ∧ i < t.length + 1 ∧ InvV d n (ρ.set 9 (some (.int i))) st' := by
  obtain ⟨a, b, e, ha, hb, hb2⟩ := h.v
  have hl := of_decide_eq_true (List.all_eq_true.mp ts_len t ht)
  obtain ⟨r, a1, b1, e1, r0, r1, q1, q2, q3⟩ := under_ok e ha hb hb2 (many := (t.length : Int) + 1) (by omega) (by omega)
  obtain ⟨i, rfl⟩ := Int.eq_ofNat_of_zero_le r0
  refine ⟨i, _, asg_ok ?_, by omega, (h.put q1 q2 q3).set (by decide) (by decide) (by decide)⟩
  have k : t.length ≤ LIM := by unfold LIM; omega
  simp [mCall, mCons, mNil, vr, h.r7, h3, cst, bnd, ret, chk, m2, mFn, f1, dLen, dAdd, k, e1]
theorem run3 {d : D} {n : Nat} {ρ : Env'} {st : Store} (h : InvV d n ρ st) : ∃ (s : List Nat) (st' : Store), c3 ρ st = .nx (ρ.set 10 (some (.str s))) st' ∧ s ∈ S9 ∧ InvV d n (ρ.set 10 (some (.str s))) st' := by
  obtain ⟨a, b, e, ha, hb, hb2⟩ := h.v
  obtain ⟨x, a1, b1, e1, hx, q1, q2, q3⟩ := some_ok (xs := S9.map D.str) e ha hb hb2 (by decide) (by decide)
  obtain ⟨s, hs, rfl⟩ := List.mem_map.mp hx
  refine ⟨s, _, asg_ok ?_, hs, (h.put q1 q2 q3).set (by decide) (by decide) (by decide)⟩
  have e1' : m__law_some [.cel n, .lst [.str [45], .str [43], .str [49], .str [50], .str [48], .str [53], .str [32], .str [49, 45], .str [120]]] st = .ok (.str s) (st.set n (vatC a1 b1)) := e1
  simp [mCall, mCons, mNil, mLst, vr, h.r7, cst, bnd, ret, chk, LIM, e1']
theorem cut_lo (t : List Nat) (k : Nat) : cut t none (some (k : Int)) = t.take k := by
  unfold cut
  rw [HT.sIx_none, HT.sIx_nat, List.drop_zero, Nat.sub_zero]
  by_cases h : k ≤ t.length
  · rw [Nat.min_eq_left h]
  · rw [Nat.min_eq_right (by omega), List.take_of_length_le (Nat.le_refl _), List.take_of_length_le (by omega)]
theorem cut_hi (t : List Nat) (k : Nat) : cut t (some (k : Int)) none = t.drop k := by
  unfold cut
  rw [HT.sIx_none, HT.sIx_nat]
  by_cases h : k ≤ t.length
  · rw [Nat.min_eq_left h]
    exact List.take_of_length_le (by rw [List.length_drop]; exact Nat.le_refl _)
  · rw [Nat.min_eq_right (by omega), List.drop_of_length_le (Nat.le_refl _), List.drop_of_length_le (by omega), List.take_nil]
def opts (t : List Nat) (i : Nat) (s : List Nat) : List (List Nat) := [t.take i ++ s ++ t.drop i, t.take i ++ t.drop (i + 1), t.take i ++ s ++ t.drop (i + 1), t.reverse]
theorem s9_len : S9.all (fun s => decide (s.length ≤ 2)) = true := by decide
theorem e4_ok {ρ : Env'} {t s : List Nat} {i : Nat} {st : Store} (h3 : ρ[3]? = some (some (.str t))) (h9 : ρ[9]? = some (some (.int i))) (h10 : ρ[10]? = some (some (.str s))) (hl : t.length ≤ 10) (hs : s.length ≤ 2) : e4 ρ st = .ok ((opts t i s).map D.str) st := by
  have k1 : t.length ≤ LIM := by unfold LIM; omega
  have l1 : (t.take i).length ≤ 10 := by rw [List.length_take]; omega
  have l2 : ∀ j, (t.drop j).length ≤ 10 := fun j => by rw [List.length_drop]; omega
  have k2 : (t.take i).length + s.length ≤ LIM := by unfold LIM; omega
  have k3 : ∀ j, (t.take i ++ s).length + (t.drop j).length ≤ LIM := fun j => by rw [List.length_append]; unfold LIM; have := l2 j; omega
  have k4 : (t.take i).length + (t.drop (i + 1)).length ≤ LIM := by unfold LIM; have := l2 (i + 1); omega
  have a1 : dCut (.str t) none (some (i : Int)) = ret (.str (t.take i)) := by
    simp only [dCut, decide_eq_true k1, chk, cut_lo]
  have a2 : ∀ j : Nat, dCut (.str t) (some (j : Int)) none = ret (.str (t.drop j)) := fun j => by
    simp only [dCut, decide_eq_true k1, chk, cut_hi]
  have a3 : dCut (.str t) (some ((i : Int) + 1)) none = ret (.str (t.drop (i + 1))) := a2 (i + 1)
  have b1 : dAdd (.str (t.take i)) (.str s) = ret (.str (t.take i ++ s)) := by
    simp only [dAdd, decide_eq_true k2, chk]
  have b2 : ∀ j, dAdd (.str (t.take i ++ s)) (.str (t.drop j)) = ret (.str (t.take i ++ s ++ t.drop j)) := fun j => by
    simp only [dAdd, decide_eq_true (k3 j), chk]
  have b3 : dAdd (.str (t.take i)) (.str (t.drop (i + 1))) = ret (.str (t.take i ++ t.drop (i + 1))) := by
    simp only [dAdd, decide_eq_true k4, chk]
  have b4 : dRev (.str t) = ret (.str t.reverse) := by
    simp only [dRev, decide_eq_true k1, chk]
  have b5 : dAdd (.int i) (.int 1) = ret (.int ((i : Int) + 1)) := rfl
  have x3 : vr 3 ρ = ret (.str t) := by unfold vr; rw [h3]
  have x9 : vr 9 ρ = ret (.int i) := by unfold vr; rw [h9]
  have x10 : vr 10 ρ = ret (.str s) := by unfold vr; rw [h10]
  simp only [e4, mCons, mNil, m2, m1, mCut, oNo, oAt, cst, bnd, ret, x3, x9, x10, a1, a2, a3, b1, b2, b3, b4, b5, opts, List.map_cons, List.map_nil]
theorem run4 {d : D} {n : Nat} {ρ : Env'} {st : Store} {t s : List Nat} {i : Nat} (h : InvV d n ρ st) (h3 : ρ[3]? = some (some (.str t))) (h9 : ρ[9]? = some (some (.int i))) (h10 : ρ[10]? = some (some (.str s))) (ht : t ∈ TS) (hs : s ∈ S9) :
    ∃ (u : List Nat) (st' : Store), c4 ρ st = .nx (ρ.set 11 (some (.str u))) st' ∧ u ∈ opts t i s ∧ InvV d n (ρ.set 11 (some (.str u))) st' := by
  obtain ⟨a, b, e, ha, hb, hb2⟩ := h.v
  have hl := of_decide_eq_true (List.all_eq_true.mp ts_len t ht)
  have hs2 := of_decide_eq_true (List.all_eq_true.mp s9_len s hs)
  obtain ⟨x, a1, b1, e1, hx, q1, q2, q3⟩ := some_ok (xs := (opts t i s).map D.str) e ha hb hb2 (by simp [opts]) (by simp [opts])
  obtain ⟨u, hu, rfl⟩ := List.mem_map.mp hx
  refine ⟨u, _, asg_ok ?_, hu, (h.put q1 q2 q3).set (by decide) (by decide) (by decide)⟩
  have he := e4_ok (st := st) h3 h9 h10 hl hs2
  have x7 : vr 7 ρ = ret (.cel n) := by unfold vr; rw [h.r7]
  have kl : decide (((opts t i s).map D.str).length ≤ LIM) = true := by
    rw [List.length_map]
    rfl
  have hm : mLst e4 ρ st = .ok (.lst ((opts t i s).map D.str)) st := by
    unfold mLst bnd
    rw [he]
    dsimp only
    rw [kl]
    rfl
  have hc : mCons (vr 7) (mCons (mLst e4) mNil) ρ st = .ok [.cel n, .lst ((opts t i s).map D.str)] st := by
    unfold mCons
    simp only [bnd, x7, ret, hm, mNil]
  unfold mCall bnd
  rw [hc]
  dsimp only [List.length_cons, List.length_nil]
  exact e1
theorem run5 {d : D} {n : Nat} {ρ : Env'} {st : Store} {u : List Nat} (h : InvV d n ρ st) (h11 : ρ[11]? = some (some (.str u))) : c5 ρ st = .nx (ρ.set 12 (some (dueOf u))) st := by
  refine asg_ok ?_
  have x11 : vr 11 ρ = ret (.str u) := by unfold vr; rw [h11]
  have x1 : vr 1 ρ = ret (.cel 0) := by unfold vr; rw [h.i.r1]
  have hd : celK 0 st = .ok EV st := by unfold celK; rw [h.i.s0]
  unfold dueOf
  cases e : valD EV (.inr ⟨u.toArray⟩) with
  | some v => simp [mIf, mB, mInD, bnd, x11, x1, ret, dDict, hd, keyD, e, asB, mTup, mCons, mNil, mGet, cst, chk, LIM]
  | none => simp [mIf, mB, mInD, bnd, x11, x1, ret, dDict, hd, keyD, e, asB, mTup, mCons, mNil, cst, chk, LIM, TV]
theorem pu_tell (u : List Nat) : PureM (tell u) := pu_mLam ps__law_told (pu_mCall pf_read_signs (pu_mCons (pu_vr 0) pu_mNil)) _
theorem run6 {d : D} {n : Nat} {ρ : Env'} {st : Store} {u : List Nat} (h : InvV d n ρ st) (h11 : ρ[11]? = some (some (.str u))) (h12 : ρ[12]? = some (some (dueOf u))) (hu : tellOk u = true) : c6 ρ st = .nx ρ st := by
  have x11 : vr 11 ρ = ret (.str u) := by unfold vr; rw [h11]
  have x12 : vr 12 ρ = ret (dueOf u) := by unfold vr; rw [h12]
  have et : mLam 2 b__law_told (mCall 1 m_read_signs (mCons (vr 11) mNil)) ρ = tell u := by
    unfold tell mLam
    have : mCall 1 m_read_signs (mCons (vr 11) mNil) ρ = mCall 1 m_read_signs (mCons (vr 0) mNil) [some (.str u)] := by
      unfold mCall mCons
      rw [x11]
      rfl
    rw [this]
  unfold tellOk at hu
  split at hu
  · rename_i dd q
    obtain ⟨k1, k2⟩ := Bool.and_eq_true_iff.mp hu
    obtain ⟨k3, k4⟩ := Bool.and_eq_true_iff.mp k2
    have e := (pu_tell u).ok _ _ q |>.2 st h.i.nh
    have dr : ∀ (x : D) (st : Store), D.dp 60 x = true → deref x st = .ok x st := fun x st hx => by
      cases x <;> first
        | rfl
        | cases hx
    have en : dNe dd (dueOf u) st = .ok (.bl false) st := by
      unfold dNe
      simp only [bnd, dr _ _ k1, dr _ _ k3, k1, k3, k4, Bool.and_self, chk, ret, Bool.not_true]
    simp only [c6, sIf, sB, mB, m2, bnd, et, e, x12, ret, en, asB, sNx]
  · cases hu
end K07
namespace K07
open DL
def TL : List (List Nat × List Nat) := [([48], []),
  ([49, 45], [45]),
  ([49, 43], [43]),
  ([50, 45], [45, 45]),
  ([49, 45, 49, 43], [45, 43]),
  ([49, 43, 49, 45], [43, 45]),
  ([50, 43], [43, 43]),
  ([51, 45], [45, 45, 45]),
  ([50, 45, 49, 43], [45, 45, 43]),
  ([49, 45, 49, 43, 49, 45], [45, 43, 45]),
  ([49, 45, 50, 43], [45, 43, 43]),
  ([49, 43, 50, 45], [43, 45, 45]),
  ([49, 43, 49, 45, 49, 43], [43, 45, 43]),
  ([50, 43, 49, 45], [43, 43, 45]),
  ([51, 43], [43, 43, 43]),
  ([52, 45], [45, 45, 45, 45]),
  ([51, 45, 49, 43], [45, 45, 45, 43]),
  ([50, 45, 49, 43, 49, 45], [45, 45, 43, 45]),
  ([50, 45, 50, 43], [45, 45, 43, 43]),
  ([49, 45, 49, 43, 50, 45], [45, 43, 45, 45]),
  ([49, 45, 49, 43, 49, 45, 49, 43], [45, 43, 45, 43]),
  ([49, 45, 50, 43, 49, 45], [45, 43, 43, 45]),
  ([49, 45, 51, 43], [45, 43, 43, 43]),
  ([49, 43, 51, 45], [43, 45, 45, 45]),
  ([49, 43, 50, 45, 49, 43], [43, 45, 45, 43]),
  ([49, 43, 49, 45, 49, 43, 49, 45], [43, 45, 43, 45]),
  ([49, 43, 49, 45, 50, 43], [43, 45, 43, 43]),
  ([50, 43, 50, 45], [43, 43, 45, 45]),
  ([50, 43, 49, 45, 49, 43], [43, 43, 45, 43]),
  ([51, 43, 49, 45], [43, 43, 43, 45]),
  ([52, 43], [43, 43, 43, 43]),
  ([53, 45], [45, 45, 45, 45, 45]),
  ([52, 45, 49, 43], [45, 45, 45, 45, 43]),
  ([51, 45, 49, 43, 49, 45], [45, 45, 45, 43, 45]),
  ([51, 45, 50, 43], [45, 45, 45, 43, 43]),
  ([50, 45, 49, 43, 50, 45], [45, 45, 43, 45, 45]),
  ([50, 45, 49, 43, 49, 45, 49, 43], [45, 45, 43, 45, 43]),
  ([50, 45, 50, 43, 49, 45], [45, 45, 43, 43, 45]),
  ([50, 45, 51, 43], [45, 45, 43, 43, 43]),
  ([49, 45, 49, 43, 51, 45], [45, 43, 45, 45, 45]),
  ([49, 45, 49, 43, 50, 45, 49, 43], [45, 43, 45, 45, 43]),
  ([49, 45, 49, 43, 49, 45, 49, 43, 49, 45], [45, 43, 45, 43, 45]),
  ([49, 45, 49, 43, 49, 45, 50, 43], [45, 43, 45, 43, 43]),
  ([49, 45, 50, 43, 50, 45], [45, 43, 43, 45, 45]),
  ([49, 45, 50, 43, 49, 45, 49, 43], [45, 43, 43, 45, 43]),
  ([49, 45, 51, 43, 49, 45], [45, 43, 43, 43, 45]),
  ([49, 45, 52, 43], [45, 43, 43, 43, 43]),
  ([49, 43, 52, 45], [43, 45, 45, 45, 45]),
  ([49, 43, 51, 45, 49, 43], [43, 45, 45, 45, 43]),
  ([49, 43, 50, 45, 49, 43, 49, 45], [43, 45, 45, 43, 45]),
  ([49, 43, 50, 45, 50, 43], [43, 45, 45, 43, 43]),
  ([49, 43, 49, 45, 49, 43, 50, 45], [43, 45, 43, 45, 45]),
  ([49, 43, 49, 45, 49, 43, 49, 45, 49, 43], [43, 45, 43, 45, 43]),
  ([49, 43, 49, 45, 50, 43, 49, 45], [43, 45, 43, 43, 45]),
  ([49, 43, 49, 45, 51, 43], [43, 45, 43, 43, 43]),
  ([50, 43, 51, 45], [43, 43, 45, 45, 45]),
  ([50, 43, 50, 45, 49, 43], [43, 43, 45, 45, 43]),
  ([50, 43, 49, 45, 49, 43, 49, 45], [43, 43, 45, 43, 45]),
  ([50, 43, 49, 45, 50, 43], [43, 43, 45, 43, 43]),
  ([51, 43, 50, 45], [43, 43, 43, 45, 45]),
  ([51, 43, 49, 45, 49, 43], [43, 43, 43, 45, 43]),
  ([52, 43, 49, 45], [43, 43, 43, 43, 45]),
  ([53, 43], [43, 43, 43, 43, 43])]
def mkE (p : List Nat × List Nat) : L2.Key × D := (.inr ⟨p.1.toArray⟩, .str p.2)
theorem ev_tl : EV = TL.map mkE := rfl
theorem key_dec (a u : List Nat) : decide ((Sum.inr ⟨a.toArray⟩ : L2.Key) = .inr ⟨u.toArray⟩) = decide (a = u) := by
  by_cases h : a = u
  · subst h
    simp
  · have : ¬ ((Sum.inr ⟨a.toArray⟩ : L2.Key) = .inr ⟨u.toArray⟩) := fun e => h (str_inj (Sum.inr.inj e))
    rw [decide_eq_false h, decide_eq_false this]
theorem val_tl (u : List Nat) : ∀ l : List (List Nat × List Nat), valD (l.map mkE) (.inr ⟨u.toArray⟩) = (l.find? fun p => decide (p.1 = u)).map fun p => D.str p.2
  | [] => rfl
  | p :: r => by
    have e : decide ((mkE p).1 = .inr ⟨u.toArray⟩) = decide (p.1 = u) := key_dec p.1 u
    unfold valD
    rw [List.map_cons, List.find?_cons, List.find?_cons, e]
    cases decide (p.1 = u) with
    | true => rfl
    | false => exact val_tl u r
def due2 (u : List Nat) : D := match (TL.find? fun p => decide (p.1 = u)) with
  | some p => .tup [.str p.2, .str []]
  | none => .tup [.non, .str TV]
theorem due_eq (u : List Nat) : dueOf u = due2 u := by
  unfold dueOf due2
  rw [ev_tl, val_tl u TL]
  cases TL.find? fun p => decide (p.1 = u) <;> rfl
def tellOk2 (u : List Nat) : Bool := match tell u [] with
  | .ok d [] => D.beq d (due2 u)
  | _ => false
theorem due_dp (u : List Nat) : D.dp 60 (due2 u) = true := by
  unfold due2
  split <;> rfl
def optOk2 (t : List Nat) (i : Nat) : Bool := tellOk2 (t.take i ++ t.drop (i + 1)) && S9.all fun s => tellOk2 (t.take i ++ s ++ t.drop i) && tellOk2 (t.take i ++ s ++ t.drop (i + 1))
def textOk2 (t : List Nat) : Bool := tellOk2 t.reverse && (List.range (t.length + 1)).all fun i => optOk2 t i
theorem tell_of (u : List Nat) (h : tellOk2 u = true) : tellOk u = true := by
  unfold tellOk2 at h
  unfold tellOk
  split at h
  · rename_i d e
    have e2 := D.beq_eq h
    try rw [e]
    try simp only
    rw [due_eq, e2, due_dp u]
    have : D.eqv (due2 u) (due2 u) = true := by
      unfold due2
      split <;> simp [D.eqv, D.eqvL]
    rw [this]
    rfl
  · cases h
theorem text_of2 (t : List Nat) (h : textOk2 t = true) : textOk t = true := by
  unfold textOk2 at h
  unfold textOk
  obtain ⟨h1, h2⟩ := Bool.and_eq_true_iff.mp h
  refine Bool.and_eq_true_iff.mpr ⟨tell_of _ h1, List.all_eq_true.mpr fun i hi => ?_⟩
  have h3 := List.all_eq_true.mp h2 i hi
  unfold optOk2 at h3
  unfold optOk
  obtain ⟨h4, h5⟩ := Bool.and_eq_true_iff.mp h3
  refine Bool.and_eq_true_iff.mpr ⟨tell_of _ h4, List.all_eq_true.mpr fun s hs => ?_⟩
  obtain ⟨h6, h7⟩ := Bool.and_eq_true_iff.mp (List.all_eq_true.mp h5 s hs)
  exact Bool.and_eq_true_iff.mpr ⟨tell_of _ h6, tell_of _ h7⟩
theorem tx0 : ((TS.drop 0).take 3).all textOk2 = true := by decide +kernel
theorem tx3 : ((TS.drop 3).take 3).all textOk2 = true := by decide +kernel
theorem tx6 : ((TS.drop 6).take 3).all textOk2 = true := by decide +kernel
theorem tx9 : ((TS.drop 9).take 3).all textOk2 = true := by decide +kernel
theorem tx12 : ((TS.drop 12).take 3).all textOk2 = true := by decide +kernel
theorem tx15 : ((TS.drop 15).take 3).all textOk2 = true := by decide +kernel
theorem tx18 : ((TS.drop 18).take 3).all textOk2 = true := by decide +kernel
theorem tx21 : ((TS.drop 21).take 3).all textOk2 = true := by decide +kernel
theorem tx24 : ((TS.drop 24).take 3).all textOk2 = true := by decide +kernel
theorem tx27 : ((TS.drop 27).take 3).all textOk2 = true := by decide +kernel
theorem tx30 : ((TS.drop 30).take 3).all textOk2 = true := by decide +kernel
theorem tx33 : ((TS.drop 33).take 3).all textOk2 = true := by decide +kernel
theorem tx36 : ((TS.drop 36).take 3).all textOk2 = true := by decide +kernel
theorem tx39 : ((TS.drop 39).take 3).all textOk2 = true := by decide +kernel
theorem tx42 : ((TS.drop 42).take 3).all textOk2 = true := by decide +kernel
theorem tx45 : ((TS.drop 45).take 3).all textOk2 = true := by decide +kernel
theorem tx48 : ((TS.drop 48).take 3).all textOk2 = true := by decide +kernel
theorem tx51 : ((TS.drop 51).take 3).all textOk2 = true := by decide +kernel
theorem tx54 : ((TS.drop 54).take 3).all textOk2 = true := by decide +kernel
theorem tx57 : ((TS.drop 57).take 3).all textOk2 = true := by decide +kernel
theorem tx60 : ((TS.drop 60).take 3).all textOk2 = true := by decide +kernel
theorem tx_all : TS.all textOk = true := by
  have e : TS = (TS.drop 0).take 3 ++ (TS.drop 3).take 3 ++ (TS.drop 6).take 3 ++ (TS.drop 9).take 3 ++ (TS.drop 12).take 3 ++ (TS.drop 15).take 3 ++ (TS.drop 18).take 3 ++ (TS.drop 21).take 3 ++ (TS.drop 24).take 3 ++ (TS.drop 27).take 3 ++ (TS.drop 30).take 3 ++ (TS.drop 33).take 3 ++ (TS.drop 36).take 3 ++ (TS.drop 39).take 3 ++ (TS.drop 42).take 3 ++ (TS.drop 45).take 3 ++ (TS.drop 48).take 3 ++ (TS.drop 51).take 3 ++ (TS.drop 54).take 3 ++ (TS.drop 57).take 3 ++ (TS.drop 60).take 3 := by decide +kernel
  have h : TS.all textOk2 = true := by
    rw [e]
    simp only [List.all_append, tx0, tx3, tx6, tx9, tx12, tx15, tx18, tx21, tx24, tx27, tx30, tx33, tx36, tx39, tx42, tx45, tx48, tx51, tx54, tx57, tx60, Bool.and_self]
  exact List.all_eq_true.mpr fun t ht => text_of2 t (List.all_eq_true.mp h t ht)
end K07
namespace K07
open DL
theorem opt_ok (hx : TS.all textOk = true) {t s u : List Nat} {i : Nat} (ht : t ∈ TS) (hi : i < t.length + 1) (hs : s ∈ S9) (hu : u ∈ opts t i s) : tellOk u = true := by
  have h1 := List.all_eq_true.mp hx t ht
  unfold textOk at h1
  obtain ⟨h2, h3⟩ := Bool.and_eq_true_iff.mp h1
  have h4 := List.all_eq_true.mp h3 i (List.mem_range.mpr hi)
  unfold optOk at h4
  obtain ⟨h5, h6⟩ := Bool.and_eq_true_iff.mp h4
  have h7 := List.all_eq_true.mp h6 s hs
  obtain ⟨h8, h9⟩ := Bool.and_eq_true_iff.mp h7
  simp only [opts, List.mem_cons, List.not_mem_nil, or_false] at hu
  rcases hu with rfl | rfl | rfl | rfl
  · exact h8
  · exact h5
  · exact h9
  · exact h2
theorem seq_one {a b : MS} {ρ ρ' : Env'} {st st' : Store} {r : RS} (h : a ρ st = .nx ρ' st') (h2 : b ρ' st' = r) : sSeq a b ρ st = r := (seq_nx h).trans h2
/-- one inner turn -/
theorem turn (hx : TS.all textOk = true) {d : D} {n : Nat} {ρ : Env'} {st : Store} (h : InvV d n ρ st) : ∃ ρ' st', sSeq c1 (sSeq c2 (sSeq c3 (sSeq c4 (sSeq c5 c6)))) ρ st = .nx ρ' st' ∧ InvV d n ρ' st' := by
  obtain ⟨t, st1, e1, ht, i1⟩ := run1 h
  have l3 : (ρ.set 3 (some (.str t)))[3]? = some (some (.str t)) := at_set (by rw [h.i.len]; decide)
  obtain ⟨i, st2, e2, hi, i2⟩ := run2 i1 l3 ht
  obtain ⟨s, st3, e3, hs, i3⟩ := run3 i2
  have g3 : (((ρ.set 3 (some (.str t))).set 9 (some (.int i))).set 10 (some (.str s)))[3]? = some (some (.str t)) := by
    rw [List.getElem?_set_ne (by decide), List.getElem?_set_ne (by decide)]
    exact l3
  have g9 : (((ρ.set 3 (some (.str t))).set 9 (some (.int i))).set 10 (some (.str s)))[9]? = some (some (.int i)) := by
    rw [List.getElem?_set_ne (by decide)]
    exact at_set (by rw [i1.i.len]; decide)
  have g10 : (((ρ.set 3 (some (.str t))).set 9 (some (.int i))).set 10 (some (.str s)))[10]? = some (some (.str s)) := at_set (by rw [i2.i.len]; decide)
  obtain ⟨u, st4, e4', hu, i4⟩ := run4 i3 g3 g9 g10 ht hs
  have ok := opt_ok hx ht hi hs hu
  have g11 := at_set (ρ := ((ρ.set 3 (some (.str t))).set 9 (some (.int i))).set 10 (some (.str s))) (i := 11) (x := some (.str u)) (by rw [i3.i.len]; decide)
  have e5 := run5 i4 g11
  have i5 : InvV d n _ _ := i4.set (i := 12) (x := some (dueOf u)) (by decide) (by decide) (by decide)
  have e6 := run6 i5 (by rw [List.getElem?_set_ne (by decide)]; exact g11) (at_set (by rw [i4.i.len]; decide)) ok
  exact ⟨_, _, seq_one e1 (seq_one e2 (seq_one e3 (seq_one e4' (seq_one e5 e6)))), i5⟩
abbrev sIn : MS := sFor (mItL itR1 (mCons (cst (.int 20)) mNil)) (gNm 8) (sSeq c1 (sSeq c2 (sSeq c3 (sSeq c4 (sSeq c5 c6)))))
theorem inner (hx : TS.all textOk = true) {d : D} {n : Nat} {ρ : Env'} {st : Store} (h : InvV d n ρ st) : ∃ ρ' st', sIn ρ st = .nx ρ' st' ∧ InvV d n ρ' st' := by
  have e : sIn ρ st = forL always (gNm 8) (sSeq c1 (sSeq c2 (sSeq c3 (sSeq c4 (sSeq c5 c6))))) (rngL 0 20) ρ st := by
    have k : rOk 20 = true := by decide +kernel
    unfold sIn sFor sB
    simp only [mItL, mCons, mNil, cst, bnd, ret, itR1, k, chk]
    rfl
  rw [e]
  refine for_inv (InvV d n) _ (fun x _ ρ st h => ⟨ρ.set 8 (some x), rfl, ?_⟩) ρ st h
  exact turn hx (h.set (by decide) (by decide) (by decide))
abbrev sBad : MS := (sIf (mNot (mB (mHcall 3 (fun l => if l = 4 then some m_signs_text else none) m__law_all_refused (mCons (cst (.fn 4)) (mCons (mCall0 m__law_bad_signs) (mCons (cst (.str [115, 105, 103, 110, 115, 32, 118, 97, 108, 117, 101])) mNil)))))) (sRet (cst (.bl false))) sNx)
theorem ps_bad : PureS sBad := ps_if (pu_mNot (pu_mB (pu_mHcall (fun l m h => by
    split at h
    · cases h; exact pf_signs_text
    · cases h) (fun m hm => pf__law_all_refused m hm) (pu_mCons (pu_cst _) (pu_mCons (pu_mCall0 pf__law_bad_signs) (pu_mCons (pu_cst _) pu_mNil)))))) (ps_ret (pu_cst _)) ps_nx
theorem bad_nx (ρ : Env') : sBad ρ [] = .nx ρ [] := by kernel_rfl
abbrev sOuter : MS := (sFor (mItL itR1 (mCons (mFn (f2 dMax) (mCons (cst (.int 5)) (mCons (mFn (f2 dMin) (mCons (cst (.int 11)) (mCons (mFn (f1 dLen) (mCons (vr 0) mNil)) mNil))) mNil))) mNil)) (gNm 4) (sSeq (sAsg (mCall 2 m__law_vat (mCons (vr 0) (mCons (vr 4) mNil))) (gNm 7)) (sSeq sIn sBad)))
theorem outer (hx : TS.all textOk = true) {ns : List Int} {d : D} (hd : d = D.scr (ns.map D.int) ∨ d = D.lst (ns.map D.int)) {ρ : Env'} {st : Store} (h : Inv d ρ st) : ∃ ρ' st', sOuter ρ st = .nx ρ' st' ∧ Inv d ρ' st' := by
  have x0 : vr 0 ρ = ret d := by unfold vr; rw [h.r0]
  have hlen : dLen d st = .ok (.int ns.length) st := by
    rcases hd with rfl | rfl
    · simp [dLen, ret]
    · simp [dLen, bnd, lLst, ret]
  have hm : ∃ m : Nat, m ≤ 11 ∧ (mItL itR1 (mCons (mFn (f2 dMax) (mCons (cst (.int 5)) (mCons (mFn (f2 dMin) (mCons (cst (.int 11)) (mCons (mFn (f1 dLen) (mCons (vr 0) mNil)) mNil))) mNil))) mNil)) ρ st = .ok ⟨rngL 0 m, always⟩ st := by
    let q : Int := if (ns.length : Int) < 11 then ns.length else 11
    let r : Int := if q > 5 then q else 5
    have hr : 0 ≤ r ∧ r ≤ 11 := by
      show 0 ≤ (if q > 5 then q else 5) ∧ (if q > 5 then q else 5) ≤ 11
      have : q ≤ 11 := by
        show (if (ns.length : Int) < 11 then (ns.length : Int) else 11) ≤ 11
        split <;> omega
      split <;> omega
    refine ⟨r.toNat, by omega, ?_⟩
    have k : rOk r = true := by unfold rOk; simp; omega
    have e1 : dMin (.int 11) (.int ns.length) = ret (.int q) := rfl
    have e2 : dMax (.int 5) (.int q) = ret (.int r) := rfl
    simp only [mItL, mCons, mNil, mFn, f1, f2, cst, bnd, ret, x0, hlen, e1, e2, itR1, k, chk]
  obtain ⟨m, hm1, hm2⟩ := hm
  have e : sOuter ρ st = forL always (gNm 4) (sSeq (sAsg (mCall 2 m__law_vat (mCons (vr 0) (mCons (vr 4) mNil))) (gNm 7)) (sSeq sIn sBad)) (rngL 0 m) ρ st := by
    unfold sOuter sFor sB
    rw [hm2]
  rw [e]
  refine for_inv (Inv d) _ (fun x hx2 ρ st h => ⟨ρ.set 4 (some x), rfl, ?_⟩) ρ st h
  obtain ⟨k, hk, rfl⟩ := List.mem_map.mp (show x ∈ (List.range m).map fun i => D.int (0 + (i : Nat)) from hx2)
  have hk2 := List.mem_range.mp hk
  have h4 := h.set (i := 4) (x := some (D.int (0 + (k : Nat)))) (by decide) (by decide)
  obtain ⟨a, b, e1, ha, hb, hb2⟩ := vat_ok (st := st) hd (k := k) (by omega)
  have y0 : vr 0 (ρ.set 4 (some (D.int (0 + (k : Nat))))) = ret d := by unfold vr; rw [h4.r0]
  have y4 : vr 4 (ρ.set 4 (some (D.int (0 + (k : Nat))))) = ret (.int k) := by
    unfold vr
    rw [at_set (by rw [h.len]; decide), Int.zero_add]
  have s1 : sAsg (mCall 2 m__law_vat (mCons (vr 0) (mCons (vr 4) mNil))) (gNm 7) (ρ.set 4 (some (D.int (0 + (k : Nat))))) st = .nx ((ρ.set 4 (some (D.int (0 + (k : Nat))))).set 7 (some (.cel st.length))) (st ++ [vatC a b]) := by
    refine asg_ok ?_
    simp only [mCall, mCons, mNil, bnd, y0, y4, ret, chk, List.length_cons, List.length_nil]
    exact e1
  have hpos : 0 < st.length := by
    have := (List.getElem?_eq_some_iff.mp h.s0).1
    exact this
  have i7 : InvV d st.length ((ρ.set 4 (some (D.int (0 + (k : Nat))))).set 7 (some (.cel st.length))) (st ++ [vatC a b]) := by
    refine ⟨⟨by rw [List.length_set]; exact h4.len, by rw [List.getElem?_set_ne (by decide)]; exact h4.r0, by rw [List.getElem?_set_ne (by decide)]; exact h4.r1, by rw [List.getElem?_append_left hpos]; exact h.s0, nhS_app h.nh rfl⟩, at_set (by rw [h4.len]; decide), by omega, a, b, by simp, ha, hb, hb2⟩
  obtain ⟨ρ3, st3, e3, i3⟩ := inner hx i7
  exact ⟨_, _, seq_one s1 (seq_one e3 (pure_nx ps_bad (bad_nx _) i3.i.nh)), i3.i⟩
/-! ### the law -/
abbrev sF : MS := (sIf (mB (m2 dNe (mLst (mCons (mCall 1 m_signs_text (mCons (cst (.str [45, 45, 43])) mNil)) (mCons (mCall 1 m_signs_text (mCons (cst (.str [])) mNil)) (mCons (mCall 1 m_read_signs (mCons (cst (.str [49, 43, 49, 45, 51, 43])) mNil)) (mCons (mCall 1 m_read_signs (mCons (cst (.str [48])) mNil)) mNil))))) (mLst (mCons (cst (.str [50, 45, 49, 43])) (mCons (cst (.str [48])) (mCons (cst (.str [43, 45, 43, 43, 43])) (mCons (cst (.str [])) mNil))))))) (sRet (cst (.bl false))) sNx)
theorem ps_F : PureS sF := by
  unfold sF
  repeat (first | (first | with_reducible exact pu_vr _ | with_reducible exact pu_cst _ | with_reducible exact pu_mNil | with_reducible exact pu_oNo | with_reducible exact pu_yes | with_reducible exact pug_gNm _ | with_reducible exact pug_nil | with_reducible exact ps_nx | with_reducible exact ps_brk | with_reducible exact ps_cnt | with_reducible exact ps_retN | with_reducible exact ps_raise _ | with_reducible exact pu_dAdd | with_reducible exact pu_dSub | with_reducible exact pu_dMulX | with_reducible exact pu_dMul | with_reducible exact pu_dMod | with_reducible exact pu_dFdiv | with_reducible exact pu_dPow | with_reducible exact pu_dShl | with_reducible exact pu_dShr | with_reducible exact pu_dEq | with_reducible exact pu_dNe | with_reducible exact pu_dLt | with_reducible exact pu_dLe | with_reducible exact pu_dGt | with_reducible exact pu_dGe | with_reducible exact pu_dMax | with_reducible exact pu_dMin | with_reducible exact pu_dInG _ | with_reducible exact pu_dIx | with_reducible exact pu_dCut | with_reducible exact pu_dNeg | with_reducible exact pu_dAbs | with_reducible exact pu_dInt1 | with_reducible exact pu_dStr1 | with_reducible exact pu_dLen | with_reducible exact pu_dTuple | with_reducible exact pu_dList | with_reducible exact pu_dSum | with_reducible exact pu_dAll | with_reducible exact pu_dAny | with_reducible exact pu_kLst | with_reducible exact pu_kStr | with_reducible exact pu_dJoin | with_reducible exact pu_dIndex | with_reducible exact pu_dIsN | with_reducible exact pu_dNotN | with_reducible exact pu_dIsStr | with_reducible exact pu_dIsInt | with_reducible exact pu_dIsBool | with_reducible exact pu_dIsTup | with_reducible exact pu_dRev | with_reducible exact pui_itR1 | with_reducible exact pui_itR2 | with_reducible exact pui_itR3 | with_reducible exact pui_itEnum | with_reducible exact pui_itZip | with_reducible apply pu_m2 | with_reducible apply pu_m1 | with_reducible apply pu_mB | with_reducible apply pu_mAnd | with_reducible apply pu_mOr | with_reducible apply pu_mNot | with_reducible apply pu_mIf | with_reducible apply pu_vAnd | with_reducible apply pu_vOr | with_reducible apply pu_vNot | with_reducible apply pu_mCons | with_reducible apply pu_mTup | with_reducible apply pu_mLst | with_reducible apply pu_mCall | with_reducible apply pu_mCall0 | with_reducible apply pu_mFn | with_reducible apply pu_f1 | with_reducible apply pu_f2 | with_reducible apply pu_mMeth | with_reducible apply pu_mCut | with_reducible apply pu_oAt | with_reducible apply pu_mChain | with_reducible apply pui_mIt | with_reducible apply pui_mItL | with_reducible apply pu_mComp | with_reducible apply ps_seq | with_reducible apply ps_expr | with_reducible apply ps_ret | with_reducible apply ps_if | with_reducible apply ps_asg | with_reducible apply ps_par | with_reducible apply pug_tp | with_reducible apply pug_cons | with_reducible apply ps_for | with_reducible apply ps_try | with_reducible apply pf_runB | with_reducible apply pu_mLam | with_reducible apply pu_mHof | with_reducible assumption) | exact pf_signs_text | exact pf_read_signs)
theorem F_nx (ρ : Env') : sF ρ [] = .nx ρ [] := by kernel_rfl
abbrev sH : MS := (sRet (m2 dEq (mComp [13] (.nm 13) (mIt (vr 5)) (mB (m2 dNe (mLam 2 b__law_error (mCall 1 m_read_signs (mCons (vr 13) mNil))) (cst (.str [116, 101, 120, 116, 32, 118, 97, 108, 117, 101])))) (vr 13)) (mLst mNil)))
abbrev sG2 : MS := (sAsg (mLst (mCons (cst .non) (mCons (cst (.int 5)) (mCons (cst (.str [])) (mCons (cst (.str [43])) (mCons (cst (.str [45, 45, 43])) (mCons (cst (.str [49, 43, 49, 43])) (mCons (cst (.str [50, 43, 50, 43, 50, 45])) (mCons (cst (.str [54, 45])) (mCons (cst (.str [48, 45])) (mCons (cst (.str [49, 45, 48, 43])) (mCons (cst (.str [48, 49, 45])) (mCons (cst (.str [49, 32, 45])) (mCons (cst (.str [45, 49])) (mCons (cst (.str [32, 49, 45])) (mCons (cst (.str [49, 45, 10])) (mCons (mTup (mCons (cst (.str [49, 45])) mNil)) (mCons (cst (.str [48, 48])) (mCons (cst (.str [50, 43, 52, 45])) mNil))))))))))))))))))) (gNm 5))
abbrev sGH : MS := sSeq sG2 sH
theorem ps_GH : PureS sGH := by
  unfold sGH sG2 sH
  repeat (first | (first | with_reducible exact pu_vr _ | with_reducible exact pu_cst _ | with_reducible exact pu_mNil | with_reducible exact pu_oNo | with_reducible exact pu_yes | with_reducible exact pug_gNm _ | with_reducible exact pug_nil | with_reducible exact ps_nx | with_reducible exact ps_brk | with_reducible exact ps_cnt | with_reducible exact ps_retN | with_reducible exact ps_raise _ | with_reducible exact pu_dAdd | with_reducible exact pu_dSub | with_reducible exact pu_dMulX | with_reducible exact pu_dMul | with_reducible exact pu_dMod | with_reducible exact pu_dFdiv | with_reducible exact pu_dPow | with_reducible exact pu_dShl | with_reducible exact pu_dShr | with_reducible exact pu_dEq | with_reducible exact pu_dNe | with_reducible exact pu_dLt | with_reducible exact pu_dLe | with_reducible exact pu_dGt | with_reducible exact pu_dGe | with_reducible exact pu_dMax | with_reducible exact pu_dMin | with_reducible exact pu_dInG _ | with_reducible exact pu_dIx | with_reducible exact pu_dCut | with_reducible exact pu_dNeg | with_reducible exact pu_dAbs | with_reducible exact pu_dInt1 | with_reducible exact pu_dStr1 | with_reducible exact pu_dLen | with_reducible exact pu_dTuple | with_reducible exact pu_dList | with_reducible exact pu_dSum | with_reducible exact pu_dAll | with_reducible exact pu_dAny | with_reducible exact pu_kLst | with_reducible exact pu_kStr | with_reducible exact pu_dJoin | with_reducible exact pu_dIndex | with_reducible exact pu_dIsN | with_reducible exact pu_dNotN | with_reducible exact pu_dIsStr | with_reducible exact pu_dIsInt | with_reducible exact pu_dIsBool | with_reducible exact pu_dIsTup | with_reducible exact pu_dRev | with_reducible exact pui_itR1 | with_reducible exact pui_itR2 | with_reducible exact pui_itR3 | with_reducible exact pui_itEnum | with_reducible exact pui_itZip | with_reducible apply pu_m2 | with_reducible apply pu_m1 | with_reducible apply pu_mB | with_reducible apply pu_mAnd | with_reducible apply pu_mOr | with_reducible apply pu_mNot | with_reducible apply pu_mIf | with_reducible apply pu_vAnd | with_reducible apply pu_vOr | with_reducible apply pu_vNot | with_reducible apply pu_mCons | with_reducible apply pu_mTup | with_reducible apply pu_mLst | with_reducible apply pu_mCall | with_reducible apply pu_mCall0 | with_reducible apply pu_mFn | with_reducible apply pu_f1 | with_reducible apply pu_f2 | with_reducible apply pu_mMeth | with_reducible apply pu_mCut | with_reducible apply pu_oAt | with_reducible apply pu_mChain | with_reducible apply pui_mIt | with_reducible apply pui_mItL | with_reducible apply pu_mComp | with_reducible apply ps_seq | with_reducible apply ps_expr | with_reducible apply ps_ret | with_reducible apply ps_if | with_reducible apply ps_asg | with_reducible apply ps_par | with_reducible apply pug_tp | with_reducible apply pug_cons | with_reducible apply ps_for | with_reducible apply ps_try | with_reducible apply pf_runB | with_reducible apply pu_mLam | with_reducible apply pu_mHof | with_reducible assumption) | exact ps__law_error | exact pf_read_signs)
theorem GH_rt (o0 o1 o2 o3 o4 o5 o6 o7 o8 o9 o10 o11 o12 o13 : Option D) : sGH [o0, o1, o2, o3, o4, o5, o6, o7, o8, o9, o10, o11, o12, o13] [] = .rt (.bl true) [] := by kernel_rfl
theorem fourteen : ∀ ρ : Env', ρ.length = 14 → ∃ o0 o1 o2 o3 o4 o5 o6 o7 o8 o9 o10 o11 o12 o13, ρ = [o0, o1, o2, o3, o4, o5, o6, o7, o8, o9, o10, o11, o12, o13]
  | [a, b, c, d, e, f, g, h, i, j, k, l, m, n], _ => ⟨a, b, c, d, e, f, g, h, i, j, k, l, m, n, rfl⟩
theorem ev_nh : nhK EV = true := by decide +kernel
theorem ev_no : noK EV = true := by decide +kernel
theorem law_run (hx : TS.all textOk = true) (ns : List Int) (d : D) (hd : d = D.scr (ns.map D.int) ∨ d = D.lst (ns.map D.int)) : ∃ st', b_law (ρ0 d) [] = .rt (.bl true) st' := by
  have i0 : Inv d (ρ2 d) [.dct EV] := ⟨rfl, rfl, rfl, rfl, by show (nhK EV && true) = true; rw [ev_nh]; rfl⟩
  obtain ⟨ρ3, st3, e3, i3⟩ := outer hx hd i0
  obtain ⟨o0, o1, o2, o3, o4, o5, o6, o7, o8, o9, o10, o11, o12, o13, rfl⟩ := fourteen ρ3 i3.len
  have eF := pure_nx ps_F (F_nx [o0, o1, o2, o3, o4, o5, o6, o7, o8, o9, o10, o11, o12, o13]) i3.nh
  have eG := pure_rt ps_GH (GH_rt o0 o1 o2 o3 o4 o5 o6 o7 o8 o9 o10 o11 o12 o13) i3.nh
  exact ⟨st3, seq_one (ph0 d) (seq_one (ph1 d) (seq_one (ph2 d) (seq_one (ph3 d) (seq_one e3 (seq_one eF eG)))))⟩
theorem lawT0 (hx : TS.all textOk = true) (ns : List Int) (d : D) (hl : ns.length ≤ 63) (hd : d = D.scr (ns.map D.int) ∨ d = D.lst (ns.map D.int)) : ∃ st', m_law [d] [] = .ok (.bl true) st' := by
  obtain ⟨st', e⟩ := law_run hx ns d hd
  have e0 : b_law ([d].map some ++ List.replicate (14 - 1) none) [] = .rt (.bl true) st' := e
  cases h : decide (st'.length = ([] : Store).length) with
  | true =>
    refine ⟨st', ?_⟩
    unfold m_law runB
    simp only [List.length_cons, List.length_nil, decide_true]
    rw [e0]
    unfold endOk
    simp only [h]
  | false =>
    refine ⟨st'.take 0, ?_⟩
    unfold m_law runB
    simp only [List.length_cons, List.length_nil, decide_true]
    rw [e0]
    unfold endOk
    simp only [h]
    rfl
end K07
namespace K07
open PySem PySem.Spec PyProof.Rows L2 DL
/-! ### the head -/
def fnL0 : List He.DefD := [⟨("is_good", none), "is_good", "is_good", L2.defArgs (K07.topS 21), L2.defBody (K07.topS 21), L2.defScope (K07.topS 21), [], []⟩, ⟨("need_signs", none), "need_signs", "need_signs", L2.defArgs (K07.topS 22), L2.defBody (K07.topS 22), L2.defScope (K07.topS 22), [], []⟩, ⟨("text_of", none), "text_of", "text_of", L2.defArgs (K07.topS 24), L2.defBody (K07.topS 24), L2.defScope (K07.topS 24), [], []⟩, ⟨("read_in", none), "read_in", "read_in", L2.defArgs (K07.topS 25), L2.defBody (K07.topS 25), L2.defScope (K07.topS 25), [], []⟩, ⟨("signs_text", none), "signs_text", "signs_text", L2.defArgs (K07.topS 26), L2.defBody (K07.topS 26), L2.defScope (K07.topS 26), [], []⟩, ⟨("read_signs", none), "read_signs", "read_signs", L2.defArgs (K07.topS 27), L2.defBody (K07.topS 27), L2.defScope (K07.topS 27), [], []⟩, ⟨("_law_vat", none), "_law_vat", "_law_vat", L2.defArgs (K07.topS 29), L2.defBody (K07.topS 29), L2.defScope (K07.topS 29), [], []⟩, ⟨("_law_under", none), "_law_under", "_law_under", L2.defArgs (K07.topS 30), L2.defBody (K07.topS 30), L2.defScope (K07.topS 30), [], []⟩, ⟨("_law_some", none), "_law_some", "_law_some", L2.defArgs (K07.topS 31), L2.defBody (K07.topS 31), L2.defScope (K07.topS 31), [], []⟩, ⟨("_law_every", none), "_law_every", "_law_every", L2.defArgs (K07.topS 32), L2.defBody (K07.topS 32), L2.defScope (K07.topS 32), [], []⟩, ⟨("_law_signs", none), "_law_signs", "_law_signs", L2.defArgs (K07.topS 33), L2.defBody (K07.topS 33), L2.defScope (K07.topS 33), [], []⟩, ⟨("_law_names", none), "_law_names", "_law_names", L2.defArgs (K07.topS 34), L2.defBody (K07.topS 34), L2.defScope (K07.topS 34), [], []⟩, ⟨("_law_error", none), "_law_error", "_law_error", L2.defArgs (K07.topS 35), L2.defBody (K07.topS 35), L2.defScope (K07.topS 35), [], []⟩, ⟨("_law_told", none), "_law_told", "_law_told", L2.defArgs (K07.topS 36), L2.defBody (K07.topS 36), L2.defScope (K07.topS 36), [], []⟩, ⟨("_law_all_refused", none), "_law_all_refused", "_law_all_refused", L2.defArgs (K07.topS 37), L2.defBody (K07.topS 37), L2.defScope (K07.topS 37), [], []⟩, ⟨("_law_bad_signs", none), "_law_bad_signs", "_law_bad_signs", L2.defArgs (K07.topS 38), L2.defBody (K07.topS 38), L2.defScope (K07.topS 38), [], []⟩, ⟨("_law_text", none), "_law_text", "_law_text", L2.defArgs (K07.topS 39), L2.defBody (K07.topS 39), L2.defScope (K07.topS 39), [], []⟩, ⟨("law", none), "law", "law", L2.defArgs (K07.topS 40), L2.defBody (K07.topS 40), L2.defScope (K07.topS 40), [], []⟩]
def fnL : List He.DefD := fnL0
def faL0 : List He.Fa := [.glo "is_good", .glo "need_signs", .glo "text_of", .glo "read_in", .glo "signs_text", .glo "read_signs", .glo "_law_vat", .glo "_law_under", .glo "_law_some", .glo "_law_every", .glo "_law_signs", .glo "_law_names", .glo "_law_error", .glo "_law_told", .glo "_law_all_refused", .glo "_law_bad_signs", .glo "_law_text", .glo "law", .glo "SplitError", .glo "TooMany", .glo "InvalidSigns", .glo "InvalidChance", .glo "InvalidNumber", .glo "InvalidCode", .glo "InvalidData", .glo "InvalidSeen", .glo "InvalidLost", .glo "InvalidTable", .glo "InvalidFacts", .glo "InvalidShare"]
def faL1 : List He.Fa := [.glo "InvalidPlace", .glo "InvalidSign", .glo "InvalidText", .glo "Misfit", .glo "Unlike", .glo "NothingToUndo", .free "ValueError", .free "abs", .free "all", .free "int", .free "isinstance", .free "len", .free "max", .free "min", .free "range", .free "str", .free "zip", .int "MOST_SIGNS" (5), .exc "InvalidSigns", .exc "InvalidChance", .exc "InvalidNumber", .exc "InvalidCode", .exc "InvalidData", .exc "InvalidSeen", .exc "InvalidLost", .exc "InvalidTable", .exc "InvalidFacts", .exc "InvalidShare", .exc "InvalidPlace", .exc "InvalidSign"]
def faL2 : List He.Fa := [.exc "InvalidText", .exc "Misfit", .exc "Unlike", .exc "NothingToUndo", .exm "InvalidSigns" "SplitError" true, .exm "InvalidChance" "SplitError" true, .exm "InvalidNumber" "SplitError" true, .exm "InvalidCode" "SplitError" true, .exm "InvalidData" "SplitError" true, .exm "InvalidSeen" "SplitError" true, .exm "InvalidLost" "SplitError" true, .exm "InvalidTable" "SplitError" true, .exm "InvalidFacts" "SplitError" true, .exm "InvalidShare" "SplitError" true, .exm "InvalidPlace" "SplitError" true, .exm "InvalidSign" "SplitError" true, .exm "InvalidText" "SplitError" true, .exm "Misfit" "SplitError" true, .exm "Unlike" "SplitError" true, .exm "NothingToUndo" "SplitError" true]
def faL : List He.Fa := faL0 ++ faL1 ++ faL2
def tfL0 : List He.Defn := [("_law_all_refused", none), ("law", none)]
def tfL : List He.Defn := tfL0
def loose0 : List Str := [("SplitError" : Str), ("InvalidSigns" : Str), ("InvalidChance" : Str), ("InvalidNumber" : Str), ("InvalidCode" : Str), ("InvalidData" : Str), ("InvalidSeen" : Str), ("InvalidLost" : Str), ("InvalidTable" : Str), ("InvalidFacts" : Str), ("InvalidShare" : Str), ("InvalidPlace" : Str), ("InvalidSign" : Str), ("InvalidText" : Str), ("Misfit" : Str), ("Unlike" : Str), ("NothingToUndo" : Str), ("TooMany" : Str), ("MOST_SIGNS" : Str), ("is_good" : Str), ("need_signs" : Str), ("text_of" : Str), ("read_in" : Str), ("signs_text" : Str), ("read_signs" : Str), ("_law_vat" : Str), ("_law_under" : Str), ("_law_some" : Str), ("_law_every" : Str), ("_law_signs" : Str)]
def loose1 : List Str := [("_law_names" : Str), ("_law_error" : Str), ("_law_told" : Str), ("_law_all_refused" : Str), ("_law_bad_signs" : Str), ("_law_text" : Str)]
def loose : List Str := loose0 ++ loose1
def exL (K : PySem.W.Frag) : List Bool := [excCB K (He.ga K "InvalidSigns") && decide ([PySem.W.kitOne K (.ref (He.ga K "InvalidSigns")) (.ref (He.ga K "InvalidSigns")), PySem.W.kitOne K (.ref (He.ga K "InvalidSigns")) (.ref (He.ga K "InvalidChance")), PySem.W.kitOne K (.ref (He.ga K "InvalidSigns")) (.ref (He.ga K "InvalidNumber")), PySem.W.kitOne K (.ref (He.ga K "InvalidSigns")) (.ref (He.ga K "InvalidCode")), PySem.W.kitOne K (.ref (He.ga K "InvalidSigns")) (.ref (He.ga K "InvalidData")), PySem.W.kitOne K (.ref (He.ga K "InvalidSigns")) (.ref (He.ga K "InvalidSeen")), PySem.W.kitOne K (.ref (He.ga K "InvalidSigns")) (.ref (He.ga K "InvalidLost")), PySem.W.kitOne K (.ref (He.ga K "InvalidSigns")) (.ref (He.ga K "InvalidTable")), PySem.W.kitOne K (.ref (He.ga K "InvalidSigns")) (.ref (He.ga K "InvalidFacts")), PySem.W.kitOne K (.ref (He.ga K "InvalidSigns")) (.ref (He.ga K "InvalidShare")), PySem.W.kitOne K (.ref (He.ga K "InvalidSigns")) (.ref (He.ga K "InvalidPlace")), PySem.W.kitOne K (.ref (He.ga K "InvalidSigns")) (.ref (He.ga K "InvalidSign")), PySem.W.kitOne K (.ref (He.ga K "InvalidSigns")) (.ref (He.ga K "InvalidText")), PySem.W.kitOne K (.ref (He.ga K "InvalidSigns")) (.ref (He.ga K "Misfit")), PySem.W.kitOne K (.ref (He.ga K "InvalidSigns")) (.ref (He.ga K "Unlike")), PySem.W.kitOne K (.ref (He.ga K "InvalidSigns")) (.ref (He.ga K "NothingToUndo")), PySem.W.kitOne K (.ref (He.ga K "InvalidSigns")) (.ref (He.ga K "TooMany")), PySem.W.kitOne K (.ref (He.ga K "InvalidSigns")) (.type "ValueError")] = [some true, some false, some false, some false, some false, some false, some false, some false, some false, some false, some false, some false, some false, some false, some false, some false, some false, some true]), 
  excCB K (He.ga K "InvalidChance") && decide ([PySem.W.kitOne K (.ref (He.ga K "InvalidChance")) (.ref (He.ga K "InvalidSigns")), PySem.W.kitOne K (.ref (He.ga K "InvalidChance")) (.ref (He.ga K "InvalidChance")), PySem.W.kitOne K (.ref (He.ga K "InvalidChance")) (.ref (He.ga K "InvalidNumber")), PySem.W.kitOne K (.ref (He.ga K "InvalidChance")) (.ref (He.ga K "InvalidCode")), PySem.W.kitOne K (.ref (He.ga K "InvalidChance")) (.ref (He.ga K "InvalidData")), PySem.W.kitOne K (.ref (He.ga K "InvalidChance")) (.ref (He.ga K "InvalidSeen")), PySem.W.kitOne K (.ref (He.ga K "InvalidChance")) (.ref (He.ga K "InvalidLost")), PySem.W.kitOne K (.ref (He.ga K "InvalidChance")) (.ref (He.ga K "InvalidTable")), PySem.W.kitOne K (.ref (He.ga K "InvalidChance")) (.ref (He.ga K "InvalidFacts")), PySem.W.kitOne K (.ref (He.ga K "InvalidChance")) (.ref (He.ga K "InvalidShare")), PySem.W.kitOne K (.ref (He.ga K "InvalidChance")) (.ref (He.ga K "InvalidPlace")), PySem.W.kitOne K (.ref (He.ga K "InvalidChance")) (.ref (He.ga K "InvalidSign")), PySem.W.kitOne K (.ref (He.ga K "InvalidChance")) (.ref (He.ga K "InvalidText")), PySem.W.kitOne K (.ref (He.ga K "InvalidChance")) (.ref (He.ga K "Misfit")), PySem.W.kitOne K (.ref (He.ga K "InvalidChance")) (.ref (He.ga K "Unlike")), PySem.W.kitOne K (.ref (He.ga K "InvalidChance")) (.ref (He.ga K "NothingToUndo")), PySem.W.kitOne K (.ref (He.ga K "InvalidChance")) (.ref (He.ga K "TooMany")), PySem.W.kitOne K (.ref (He.ga K "InvalidChance")) (.type "ValueError")] = [some false, some true, some false, some false, some false, some false, some false, some false, some false, some false, some false, some false, some false, some false, some false, some false, some false, some true]), 
  excCB K (He.ga K "InvalidNumber") && decide ([PySem.W.kitOne K (.ref (He.ga K "InvalidNumber")) (.ref (He.ga K "InvalidSigns")), PySem.W.kitOne K (.ref (He.ga K "InvalidNumber")) (.ref (He.ga K "InvalidChance")), PySem.W.kitOne K (.ref (He.ga K "InvalidNumber")) (.ref (He.ga K "InvalidNumber")), PySem.W.kitOne K (.ref (He.ga K "InvalidNumber")) (.ref (He.ga K "InvalidCode")), PySem.W.kitOne K (.ref (He.ga K "InvalidNumber")) (.ref (He.ga K "InvalidData")), PySem.W.kitOne K (.ref (He.ga K "InvalidNumber")) (.ref (He.ga K "InvalidSeen")), PySem.W.kitOne K (.ref (He.ga K "InvalidNumber")) (.ref (He.ga K "InvalidLost")), PySem.W.kitOne K (.ref (He.ga K "InvalidNumber")) (.ref (He.ga K "InvalidTable")), PySem.W.kitOne K (.ref (He.ga K "InvalidNumber")) (.ref (He.ga K "InvalidFacts")), PySem.W.kitOne K (.ref (He.ga K "InvalidNumber")) (.ref (He.ga K "InvalidShare")), PySem.W.kitOne K (.ref (He.ga K "InvalidNumber")) (.ref (He.ga K "InvalidPlace")), PySem.W.kitOne K (.ref (He.ga K "InvalidNumber")) (.ref (He.ga K "InvalidSign")), PySem.W.kitOne K (.ref (He.ga K "InvalidNumber")) (.ref (He.ga K "InvalidText")), PySem.W.kitOne K (.ref (He.ga K "InvalidNumber")) (.ref (He.ga K "Misfit")), PySem.W.kitOne K (.ref (He.ga K "InvalidNumber")) (.ref (He.ga K "Unlike")), PySem.W.kitOne K (.ref (He.ga K "InvalidNumber")) (.ref (He.ga K "NothingToUndo")), PySem.W.kitOne K (.ref (He.ga K "InvalidNumber")) (.ref (He.ga K "TooMany")), PySem.W.kitOne K (.ref (He.ga K "InvalidNumber")) (.type "ValueError")] = [some false, some false, some true, some false, some false, some false, some false, some false, some false, some false, some false, some false, some false, some false, some false, some false, some false, some true]), 
  excCB K (He.ga K "InvalidCode") && decide ([PySem.W.kitOne K (.ref (He.ga K "InvalidCode")) (.ref (He.ga K "InvalidSigns")), PySem.W.kitOne K (.ref (He.ga K "InvalidCode")) (.ref (He.ga K "InvalidChance")), PySem.W.kitOne K (.ref (He.ga K "InvalidCode")) (.ref (He.ga K "InvalidNumber")), PySem.W.kitOne K (.ref (He.ga K "InvalidCode")) (.ref (He.ga K "InvalidCode")), PySem.W.kitOne K (.ref (He.ga K "InvalidCode")) (.ref (He.ga K "InvalidData")), PySem.W.kitOne K (.ref (He.ga K "InvalidCode")) (.ref (He.ga K "InvalidSeen")), PySem.W.kitOne K (.ref (He.ga K "InvalidCode")) (.ref (He.ga K "InvalidLost")), PySem.W.kitOne K (.ref (He.ga K "InvalidCode")) (.ref (He.ga K "InvalidTable")), PySem.W.kitOne K (.ref (He.ga K "InvalidCode")) (.ref (He.ga K "InvalidFacts")), PySem.W.kitOne K (.ref (He.ga K "InvalidCode")) (.ref (He.ga K "InvalidShare")), PySem.W.kitOne K (.ref (He.ga K "InvalidCode")) (.ref (He.ga K "InvalidPlace")), PySem.W.kitOne K (.ref (He.ga K "InvalidCode")) (.ref (He.ga K "InvalidSign")), PySem.W.kitOne K (.ref (He.ga K "InvalidCode")) (.ref (He.ga K "InvalidText")), PySem.W.kitOne K (.ref (He.ga K "InvalidCode")) (.ref (He.ga K "Misfit")), PySem.W.kitOne K (.ref (He.ga K "InvalidCode")) (.ref (He.ga K "Unlike")), PySem.W.kitOne K (.ref (He.ga K "InvalidCode")) (.ref (He.ga K "NothingToUndo")), PySem.W.kitOne K (.ref (He.ga K "InvalidCode")) (.ref (He.ga K "TooMany")), PySem.W.kitOne K (.ref (He.ga K "InvalidCode")) (.type "ValueError")] = [some false, some false, some false, some true, some false, some false, some false, some false, some false, some false, some false, some false, some false, some false, some false, some false, some false, some true]), 
  excCB K (He.ga K "InvalidData") && decide ([PySem.W.kitOne K (.ref (He.ga K "InvalidData")) (.ref (He.ga K "InvalidSigns")), PySem.W.kitOne K (.ref (He.ga K "InvalidData")) (.ref (He.ga K "InvalidChance")), PySem.W.kitOne K (.ref (He.ga K "InvalidData")) (.ref (He.ga K "InvalidNumber")), PySem.W.kitOne K (.ref (He.ga K "InvalidData")) (.ref (He.ga K "InvalidCode")), PySem.W.kitOne K (.ref (He.ga K "InvalidData")) (.ref (He.ga K "InvalidData")), PySem.W.kitOne K (.ref (He.ga K "InvalidData")) (.ref (He.ga K "InvalidSeen")), PySem.W.kitOne K (.ref (He.ga K "InvalidData")) (.ref (He.ga K "InvalidLost")), PySem.W.kitOne K (.ref (He.ga K "InvalidData")) (.ref (He.ga K "InvalidTable")), PySem.W.kitOne K (.ref (He.ga K "InvalidData")) (.ref (He.ga K "InvalidFacts")), PySem.W.kitOne K (.ref (He.ga K "InvalidData")) (.ref (He.ga K "InvalidShare")), PySem.W.kitOne K (.ref (He.ga K "InvalidData")) (.ref (He.ga K "InvalidPlace")), PySem.W.kitOne K (.ref (He.ga K "InvalidData")) (.ref (He.ga K "InvalidSign")), PySem.W.kitOne K (.ref (He.ga K "InvalidData")) (.ref (He.ga K "InvalidText")), PySem.W.kitOne K (.ref (He.ga K "InvalidData")) (.ref (He.ga K "Misfit")), PySem.W.kitOne K (.ref (He.ga K "InvalidData")) (.ref (He.ga K "Unlike")), PySem.W.kitOne K (.ref (He.ga K "InvalidData")) (.ref (He.ga K "NothingToUndo")), PySem.W.kitOne K (.ref (He.ga K "InvalidData")) (.ref (He.ga K "TooMany")), PySem.W.kitOne K (.ref (He.ga K "InvalidData")) (.type "ValueError")] = [some false, some false, some false, some false, some true, some false, some false, some false, some false, some false, some false, some false, some false, some false, some false, some false, some false, some true]), 
  excCB K (He.ga K "InvalidSeen") && decide ([PySem.W.kitOne K (.ref (He.ga K "InvalidSeen")) (.ref (He.ga K "InvalidSigns")), PySem.W.kitOne K (.ref (He.ga K "InvalidSeen")) (.ref (He.ga K "InvalidChance")), PySem.W.kitOne K (.ref (He.ga K "InvalidSeen")) (.ref (He.ga K "InvalidNumber")), PySem.W.kitOne K (.ref (He.ga K "InvalidSeen")) (.ref (He.ga K "InvalidCode")), PySem.W.kitOne K (.ref (He.ga K "InvalidSeen")) (.ref (He.ga K "InvalidData")), PySem.W.kitOne K (.ref (He.ga K "InvalidSeen")) (.ref (He.ga K "InvalidSeen")), PySem.W.kitOne K (.ref (He.ga K "InvalidSeen")) (.ref (He.ga K "InvalidLost")), PySem.W.kitOne K (.ref (He.ga K "InvalidSeen")) (.ref (He.ga K "InvalidTable")), PySem.W.kitOne K (.ref (He.ga K "InvalidSeen")) (.ref (He.ga K "InvalidFacts")), PySem.W.kitOne K (.ref (He.ga K "InvalidSeen")) (.ref (He.ga K "InvalidShare")), PySem.W.kitOne K (.ref (He.ga K "InvalidSeen")) (.ref (He.ga K "InvalidPlace")), PySem.W.kitOne K (.ref (He.ga K "InvalidSeen")) (.ref (He.ga K "InvalidSign")), PySem.W.kitOne K (.ref (He.ga K "InvalidSeen")) (.ref (He.ga K "InvalidText")), PySem.W.kitOne K (.ref (He.ga K "InvalidSeen")) (.ref (He.ga K "Misfit")), PySem.W.kitOne K (.ref (He.ga K "InvalidSeen")) (.ref (He.ga K "Unlike")), PySem.W.kitOne K (.ref (He.ga K "InvalidSeen")) (.ref (He.ga K "NothingToUndo")), PySem.W.kitOne K (.ref (He.ga K "InvalidSeen")) (.ref (He.ga K "TooMany")), PySem.W.kitOne K (.ref (He.ga K "InvalidSeen")) (.type "ValueError")] = [some false, some false, some false, some false, some false, some true, some false, some false, some false, some false, some false, some false, some false, some false, some false, some false, some false, some true]), 
  excCB K (He.ga K "InvalidLost") && decide ([PySem.W.kitOne K (.ref (He.ga K "InvalidLost")) (.ref (He.ga K "InvalidSigns")), PySem.W.kitOne K (.ref (He.ga K "InvalidLost")) (.ref (He.ga K "InvalidChance")), PySem.W.kitOne K (.ref (He.ga K "InvalidLost")) (.ref (He.ga K "InvalidNumber")), PySem.W.kitOne K (.ref (He.ga K "InvalidLost")) (.ref (He.ga K "InvalidCode")), PySem.W.kitOne K (.ref (He.ga K "InvalidLost")) (.ref (He.ga K "InvalidData")), PySem.W.kitOne K (.ref (He.ga K "InvalidLost")) (.ref (He.ga K "InvalidSeen")), PySem.W.kitOne K (.ref (He.ga K "InvalidLost")) (.ref (He.ga K "InvalidLost")), PySem.W.kitOne K (.ref (He.ga K "InvalidLost")) (.ref (He.ga K "InvalidTable")), PySem.W.kitOne K (.ref (He.ga K "InvalidLost")) (.ref (He.ga K "InvalidFacts")), PySem.W.kitOne K (.ref (He.ga K "InvalidLost")) (.ref (He.ga K "InvalidShare")), PySem.W.kitOne K (.ref (He.ga K "InvalidLost")) (.ref (He.ga K "InvalidPlace")), PySem.W.kitOne K (.ref (He.ga K "InvalidLost")) (.ref (He.ga K "InvalidSign")), PySem.W.kitOne K (.ref (He.ga K "InvalidLost")) (.ref (He.ga K "InvalidText")), PySem.W.kitOne K (.ref (He.ga K "InvalidLost")) (.ref (He.ga K "Misfit")), PySem.W.kitOne K (.ref (He.ga K "InvalidLost")) (.ref (He.ga K "Unlike")), PySem.W.kitOne K (.ref (He.ga K "InvalidLost")) (.ref (He.ga K "NothingToUndo")), PySem.W.kitOne K (.ref (He.ga K "InvalidLost")) (.ref (He.ga K "TooMany")), PySem.W.kitOne K (.ref (He.ga K "InvalidLost")) (.type "ValueError")] = [some false, some false, some false, some false, some false, some false, some true, some false, some false, some false, some false, some false, some false, some false, some false, some false, some false, some true]), 
  excCB K (He.ga K "InvalidTable") && decide ([PySem.W.kitOne K (.ref (He.ga K "InvalidTable")) (.ref (He.ga K "InvalidSigns")), PySem.W.kitOne K (.ref (He.ga K "InvalidTable")) (.ref (He.ga K "InvalidChance")), PySem.W.kitOne K (.ref (He.ga K "InvalidTable")) (.ref (He.ga K "InvalidNumber")), PySem.W.kitOne K (.ref (He.ga K "InvalidTable")) (.ref (He.ga K "InvalidCode")), PySem.W.kitOne K (.ref (He.ga K "InvalidTable")) (.ref (He.ga K "InvalidData")), PySem.W.kitOne K (.ref (He.ga K "InvalidTable")) (.ref (He.ga K "InvalidSeen")), PySem.W.kitOne K (.ref (He.ga K "InvalidTable")) (.ref (He.ga K "InvalidLost")), PySem.W.kitOne K (.ref (He.ga K "InvalidTable")) (.ref (He.ga K "InvalidTable")), PySem.W.kitOne K (.ref (He.ga K "InvalidTable")) (.ref (He.ga K "InvalidFacts")), PySem.W.kitOne K (.ref (He.ga K "InvalidTable")) (.ref (He.ga K "InvalidShare")), PySem.W.kitOne K (.ref (He.ga K "InvalidTable")) (.ref (He.ga K "InvalidPlace")), PySem.W.kitOne K (.ref (He.ga K "InvalidTable")) (.ref (He.ga K "InvalidSign")), PySem.W.kitOne K (.ref (He.ga K "InvalidTable")) (.ref (He.ga K "InvalidText")), PySem.W.kitOne K (.ref (He.ga K "InvalidTable")) (.ref (He.ga K "Misfit")), PySem.W.kitOne K (.ref (He.ga K "InvalidTable")) (.ref (He.ga K "Unlike")), PySem.W.kitOne K (.ref (He.ga K "InvalidTable")) (.ref (He.ga K "NothingToUndo")), PySem.W.kitOne K (.ref (He.ga K "InvalidTable")) (.ref (He.ga K "TooMany")), PySem.W.kitOne K (.ref (He.ga K "InvalidTable")) (.type "ValueError")] = [some false, some false, some false, some false, some false, some false, some false, some true, some false, some false, some false, some false, some false, some false, some false, some false, some false, some true]), 
  excCB K (He.ga K "InvalidFacts") && decide ([PySem.W.kitOne K (.ref (He.ga K "InvalidFacts")) (.ref (He.ga K "InvalidSigns")), PySem.W.kitOne K (.ref (He.ga K "InvalidFacts")) (.ref (He.ga K "InvalidChance")), PySem.W.kitOne K (.ref (He.ga K "InvalidFacts")) (.ref (He.ga K "InvalidNumber")), PySem.W.kitOne K (.ref (He.ga K "InvalidFacts")) (.ref (He.ga K "InvalidCode")), PySem.W.kitOne K (.ref (He.ga K "InvalidFacts")) (.ref (He.ga K "InvalidData")), PySem.W.kitOne K (.ref (He.ga K "InvalidFacts")) (.ref (He.ga K "InvalidSeen")), PySem.W.kitOne K (.ref (He.ga K "InvalidFacts")) (.ref (He.ga K "InvalidLost")), PySem.W.kitOne K (.ref (He.ga K "InvalidFacts")) (.ref (He.ga K "InvalidTable")), PySem.W.kitOne K (.ref (He.ga K "InvalidFacts")) (.ref (He.ga K "InvalidFacts")), PySem.W.kitOne K (.ref (He.ga K "InvalidFacts")) (.ref (He.ga K "InvalidShare")), PySem.W.kitOne K (.ref (He.ga K "InvalidFacts")) (.ref (He.ga K "InvalidPlace")), PySem.W.kitOne K (.ref (He.ga K "InvalidFacts")) (.ref (He.ga K "InvalidSign")), PySem.W.kitOne K (.ref (He.ga K "InvalidFacts")) (.ref (He.ga K "InvalidText")), PySem.W.kitOne K (.ref (He.ga K "InvalidFacts")) (.ref (He.ga K "Misfit")), PySem.W.kitOne K (.ref (He.ga K "InvalidFacts")) (.ref (He.ga K "Unlike")), PySem.W.kitOne K (.ref (He.ga K "InvalidFacts")) (.ref (He.ga K "NothingToUndo")), PySem.W.kitOne K (.ref (He.ga K "InvalidFacts")) (.ref (He.ga K "TooMany")), PySem.W.kitOne K (.ref (He.ga K "InvalidFacts")) (.type "ValueError")] = [some false, some false, some false, some false, some false, some false, some false, some false, some true, some false, some false, some false, some false, some false, some false, some false, some false, some true]), 
  excCB K (He.ga K "InvalidShare") && decide ([PySem.W.kitOne K (.ref (He.ga K "InvalidShare")) (.ref (He.ga K "InvalidSigns")), PySem.W.kitOne K (.ref (He.ga K "InvalidShare")) (.ref (He.ga K "InvalidChance")), PySem.W.kitOne K (.ref (He.ga K "InvalidShare")) (.ref (He.ga K "InvalidNumber")), PySem.W.kitOne K (.ref (He.ga K "InvalidShare")) (.ref (He.ga K "InvalidCode")), PySem.W.kitOne K (.ref (He.ga K "InvalidShare")) (.ref (He.ga K "InvalidData")), PySem.W.kitOne K (.ref (He.ga K "InvalidShare")) (.ref (He.ga K "InvalidSeen")), PySem.W.kitOne K (.ref (He.ga K "InvalidShare")) (.ref (He.ga K "InvalidLost")), PySem.W.kitOne K (.ref (He.ga K "InvalidShare")) (.ref (He.ga K "InvalidTable")), PySem.W.kitOne K (.ref (He.ga K "InvalidShare")) (.ref (He.ga K "InvalidFacts")), PySem.W.kitOne K (.ref (He.ga K "InvalidShare")) (.ref (He.ga K "InvalidShare")), PySem.W.kitOne K (.ref (He.ga K "InvalidShare")) (.ref (He.ga K "InvalidPlace")), PySem.W.kitOne K (.ref (He.ga K "InvalidShare")) (.ref (He.ga K "InvalidSign")), PySem.W.kitOne K (.ref (He.ga K "InvalidShare")) (.ref (He.ga K "InvalidText")), PySem.W.kitOne K (.ref (He.ga K "InvalidShare")) (.ref (He.ga K "Misfit")), PySem.W.kitOne K (.ref (He.ga K "InvalidShare")) (.ref (He.ga K "Unlike")), PySem.W.kitOne K (.ref (He.ga K "InvalidShare")) (.ref (He.ga K "NothingToUndo")), PySem.W.kitOne K (.ref (He.ga K "InvalidShare")) (.ref (He.ga K "TooMany")), PySem.W.kitOne K (.ref (He.ga K "InvalidShare")) (.type "ValueError")] = [some false, some false, some false, some false, some false, some false, some false, some false, some false, some true, some false, some false, some false, some false, some false, some false, some false, some true]), 
  excCB K (He.ga K "InvalidPlace") && decide ([PySem.W.kitOne K (.ref (He.ga K "InvalidPlace")) (.ref (He.ga K "InvalidSigns")), PySem.W.kitOne K (.ref (He.ga K "InvalidPlace")) (.ref (He.ga K "InvalidChance")), PySem.W.kitOne K (.ref (He.ga K "InvalidPlace")) (.ref (He.ga K "InvalidNumber")), PySem.W.kitOne K (.ref (He.ga K "InvalidPlace")) (.ref (He.ga K "InvalidCode")), PySem.W.kitOne K (.ref (He.ga K "InvalidPlace")) (.ref (He.ga K "InvalidData")), PySem.W.kitOne K (.ref (He.ga K "InvalidPlace")) (.ref (He.ga K "InvalidSeen")), PySem.W.kitOne K (.ref (He.ga K "InvalidPlace")) (.ref (He.ga K "InvalidLost")), PySem.W.kitOne K (.ref (He.ga K "InvalidPlace")) (.ref (He.ga K "InvalidTable")), PySem.W.kitOne K (.ref (He.ga K "InvalidPlace")) (.ref (He.ga K "InvalidFacts")), PySem.W.kitOne K (.ref (He.ga K "InvalidPlace")) (.ref (He.ga K "InvalidShare")), PySem.W.kitOne K (.ref (He.ga K "InvalidPlace")) (.ref (He.ga K "InvalidPlace")), PySem.W.kitOne K (.ref (He.ga K "InvalidPlace")) (.ref (He.ga K "InvalidSign")), PySem.W.kitOne K (.ref (He.ga K "InvalidPlace")) (.ref (He.ga K "InvalidText")), PySem.W.kitOne K (.ref (He.ga K "InvalidPlace")) (.ref (He.ga K "Misfit")), PySem.W.kitOne K (.ref (He.ga K "InvalidPlace")) (.ref (He.ga K "Unlike")), PySem.W.kitOne K (.ref (He.ga K "InvalidPlace")) (.ref (He.ga K "NothingToUndo")), PySem.W.kitOne K (.ref (He.ga K "InvalidPlace")) (.ref (He.ga K "TooMany")), PySem.W.kitOne K (.ref (He.ga K "InvalidPlace")) (.type "ValueError")] = [some false, some false, some false, some false, some false, some false, some false, some false, some false, some false, some true, some false, some false, some false, some false, some false, some false, some true]), 
  excCB K (He.ga K "InvalidSign") && decide ([PySem.W.kitOne K (.ref (He.ga K "InvalidSign")) (.ref (He.ga K "InvalidSigns")), PySem.W.kitOne K (.ref (He.ga K "InvalidSign")) (.ref (He.ga K "InvalidChance")), PySem.W.kitOne K (.ref (He.ga K "InvalidSign")) (.ref (He.ga K "InvalidNumber")), PySem.W.kitOne K (.ref (He.ga K "InvalidSign")) (.ref (He.ga K "InvalidCode")), PySem.W.kitOne K (.ref (He.ga K "InvalidSign")) (.ref (He.ga K "InvalidData")), PySem.W.kitOne K (.ref (He.ga K "InvalidSign")) (.ref (He.ga K "InvalidSeen")), PySem.W.kitOne K (.ref (He.ga K "InvalidSign")) (.ref (He.ga K "InvalidLost")), PySem.W.kitOne K (.ref (He.ga K "InvalidSign")) (.ref (He.ga K "InvalidTable")), PySem.W.kitOne K (.ref (He.ga K "InvalidSign")) (.ref (He.ga K "InvalidFacts")), PySem.W.kitOne K (.ref (He.ga K "InvalidSign")) (.ref (He.ga K "InvalidShare")), PySem.W.kitOne K (.ref (He.ga K "InvalidSign")) (.ref (He.ga K "InvalidPlace")), PySem.W.kitOne K (.ref (He.ga K "InvalidSign")) (.ref (He.ga K "InvalidSign")), PySem.W.kitOne K (.ref (He.ga K "InvalidSign")) (.ref (He.ga K "InvalidText")), PySem.W.kitOne K (.ref (He.ga K "InvalidSign")) (.ref (He.ga K "Misfit")), PySem.W.kitOne K (.ref (He.ga K "InvalidSign")) (.ref (He.ga K "Unlike")), PySem.W.kitOne K (.ref (He.ga K "InvalidSign")) (.ref (He.ga K "NothingToUndo")), PySem.W.kitOne K (.ref (He.ga K "InvalidSign")) (.ref (He.ga K "TooMany")), PySem.W.kitOne K (.ref (He.ga K "InvalidSign")) (.type "ValueError")] = [some false, some false, some false, some false, some false, some false, some false, some false, some false, some false, some false, some true, some false, some false, some false, some false, some false, some true]), 
  excCB K (He.ga K "InvalidText") && decide ([PySem.W.kitOne K (.ref (He.ga K "InvalidText")) (.ref (He.ga K "InvalidSigns")), PySem.W.kitOne K (.ref (He.ga K "InvalidText")) (.ref (He.ga K "InvalidChance")), PySem.W.kitOne K (.ref (He.ga K "InvalidText")) (.ref (He.ga K "InvalidNumber")), PySem.W.kitOne K (.ref (He.ga K "InvalidText")) (.ref (He.ga K "InvalidCode")), PySem.W.kitOne K (.ref (He.ga K "InvalidText")) (.ref (He.ga K "InvalidData")), PySem.W.kitOne K (.ref (He.ga K "InvalidText")) (.ref (He.ga K "InvalidSeen")), PySem.W.kitOne K (.ref (He.ga K "InvalidText")) (.ref (He.ga K "InvalidLost")), PySem.W.kitOne K (.ref (He.ga K "InvalidText")) (.ref (He.ga K "InvalidTable")), PySem.W.kitOne K (.ref (He.ga K "InvalidText")) (.ref (He.ga K "InvalidFacts")), PySem.W.kitOne K (.ref (He.ga K "InvalidText")) (.ref (He.ga K "InvalidShare")), PySem.W.kitOne K (.ref (He.ga K "InvalidText")) (.ref (He.ga K "InvalidPlace")), PySem.W.kitOne K (.ref (He.ga K "InvalidText")) (.ref (He.ga K "InvalidSign")), PySem.W.kitOne K (.ref (He.ga K "InvalidText")) (.ref (He.ga K "InvalidText")), PySem.W.kitOne K (.ref (He.ga K "InvalidText")) (.ref (He.ga K "Misfit")), PySem.W.kitOne K (.ref (He.ga K "InvalidText")) (.ref (He.ga K "Unlike")), PySem.W.kitOne K (.ref (He.ga K "InvalidText")) (.ref (He.ga K "NothingToUndo")), PySem.W.kitOne K (.ref (He.ga K "InvalidText")) (.ref (He.ga K "TooMany")), PySem.W.kitOne K (.ref (He.ga K "InvalidText")) (.type "ValueError")] = [some false, some false, some false, some false, some false, some false, some false, some false, some false, some false, some false, some false, some true, some false, some false, some false, some false, some true]), 
  excCB K (He.ga K "Misfit") && decide ([PySem.W.kitOne K (.ref (He.ga K "Misfit")) (.ref (He.ga K "InvalidSigns")), PySem.W.kitOne K (.ref (He.ga K "Misfit")) (.ref (He.ga K "InvalidChance")), PySem.W.kitOne K (.ref (He.ga K "Misfit")) (.ref (He.ga K "InvalidNumber")), PySem.W.kitOne K (.ref (He.ga K "Misfit")) (.ref (He.ga K "InvalidCode")), PySem.W.kitOne K (.ref (He.ga K "Misfit")) (.ref (He.ga K "InvalidData")), PySem.W.kitOne K (.ref (He.ga K "Misfit")) (.ref (He.ga K "InvalidSeen")), PySem.W.kitOne K (.ref (He.ga K "Misfit")) (.ref (He.ga K "InvalidLost")), PySem.W.kitOne K (.ref (He.ga K "Misfit")) (.ref (He.ga K "InvalidTable")), PySem.W.kitOne K (.ref (He.ga K "Misfit")) (.ref (He.ga K "InvalidFacts")), PySem.W.kitOne K (.ref (He.ga K "Misfit")) (.ref (He.ga K "InvalidShare")), PySem.W.kitOne K (.ref (He.ga K "Misfit")) (.ref (He.ga K "InvalidPlace")), PySem.W.kitOne K (.ref (He.ga K "Misfit")) (.ref (He.ga K "InvalidSign")), PySem.W.kitOne K (.ref (He.ga K "Misfit")) (.ref (He.ga K "InvalidText")), PySem.W.kitOne K (.ref (He.ga K "Misfit")) (.ref (He.ga K "Misfit")), PySem.W.kitOne K (.ref (He.ga K "Misfit")) (.ref (He.ga K "Unlike")), PySem.W.kitOne K (.ref (He.ga K "Misfit")) (.ref (He.ga K "NothingToUndo")), PySem.W.kitOne K (.ref (He.ga K "Misfit")) (.ref (He.ga K "TooMany")), PySem.W.kitOne K (.ref (He.ga K "Misfit")) (.type "ValueError")] = [some false, some false, some false, some false, some false, some false, some false, some false, some false, some false, some false, some false, some false, some true, some false, some false, some false, some true]), 
  excCB K (He.ga K "Unlike") && decide ([PySem.W.kitOne K (.ref (He.ga K "Unlike")) (.ref (He.ga K "InvalidSigns")), PySem.W.kitOne K (.ref (He.ga K "Unlike")) (.ref (He.ga K "InvalidChance")), PySem.W.kitOne K (.ref (He.ga K "Unlike")) (.ref (He.ga K "InvalidNumber")), PySem.W.kitOne K (.ref (He.ga K "Unlike")) (.ref (He.ga K "InvalidCode")), PySem.W.kitOne K (.ref (He.ga K "Unlike")) (.ref (He.ga K "InvalidData")), PySem.W.kitOne K (.ref (He.ga K "Unlike")) (.ref (He.ga K "InvalidSeen")), PySem.W.kitOne K (.ref (He.ga K "Unlike")) (.ref (He.ga K "InvalidLost")), PySem.W.kitOne K (.ref (He.ga K "Unlike")) (.ref (He.ga K "InvalidTable")), PySem.W.kitOne K (.ref (He.ga K "Unlike")) (.ref (He.ga K "InvalidFacts")), PySem.W.kitOne K (.ref (He.ga K "Unlike")) (.ref (He.ga K "InvalidShare")), PySem.W.kitOne K (.ref (He.ga K "Unlike")) (.ref (He.ga K "InvalidPlace")), PySem.W.kitOne K (.ref (He.ga K "Unlike")) (.ref (He.ga K "InvalidSign")), PySem.W.kitOne K (.ref (He.ga K "Unlike")) (.ref (He.ga K "InvalidText")), PySem.W.kitOne K (.ref (He.ga K "Unlike")) (.ref (He.ga K "Misfit")), PySem.W.kitOne K (.ref (He.ga K "Unlike")) (.ref (He.ga K "Unlike")), PySem.W.kitOne K (.ref (He.ga K "Unlike")) (.ref (He.ga K "NothingToUndo")), PySem.W.kitOne K (.ref (He.ga K "Unlike")) (.ref (He.ga K "TooMany")), PySem.W.kitOne K (.ref (He.ga K "Unlike")) (.type "ValueError")] = [some false, some false, some false, some false, some false, some false, some false, some false, some false, some false, some false, some false, some false, some false, some true, some false, some false, some true]), 
  excCB K (He.ga K "NothingToUndo") && decide ([PySem.W.kitOne K (.ref (He.ga K "NothingToUndo")) (.ref (He.ga K "InvalidSigns")), PySem.W.kitOne K (.ref (He.ga K "NothingToUndo")) (.ref (He.ga K "InvalidChance")), PySem.W.kitOne K (.ref (He.ga K "NothingToUndo")) (.ref (He.ga K "InvalidNumber")), PySem.W.kitOne K (.ref (He.ga K "NothingToUndo")) (.ref (He.ga K "InvalidCode")), PySem.W.kitOne K (.ref (He.ga K "NothingToUndo")) (.ref (He.ga K "InvalidData")), PySem.W.kitOne K (.ref (He.ga K "NothingToUndo")) (.ref (He.ga K "InvalidSeen")), PySem.W.kitOne K (.ref (He.ga K "NothingToUndo")) (.ref (He.ga K "InvalidLost")), PySem.W.kitOne K (.ref (He.ga K "NothingToUndo")) (.ref (He.ga K "InvalidTable")), PySem.W.kitOne K (.ref (He.ga K "NothingToUndo")) (.ref (He.ga K "InvalidFacts")), PySem.W.kitOne K (.ref (He.ga K "NothingToUndo")) (.ref (He.ga K "InvalidShare")), PySem.W.kitOne K (.ref (He.ga K "NothingToUndo")) (.ref (He.ga K "InvalidPlace")), PySem.W.kitOne K (.ref (He.ga K "NothingToUndo")) (.ref (He.ga K "InvalidSign")), PySem.W.kitOne K (.ref (He.ga K "NothingToUndo")) (.ref (He.ga K "InvalidText")), PySem.W.kitOne K (.ref (He.ga K "NothingToUndo")) (.ref (He.ga K "Misfit")), PySem.W.kitOne K (.ref (He.ga K "NothingToUndo")) (.ref (He.ga K "Unlike")), PySem.W.kitOne K (.ref (He.ga K "NothingToUndo")) (.ref (He.ga K "NothingToUndo")), PySem.W.kitOne K (.ref (He.ga K "NothingToUndo")) (.ref (He.ga K "TooMany")), PySem.W.kitOne K (.ref (He.ga K "NothingToUndo")) (.type "ValueError")] = [some false, some false, some false, some false, some false, some false, some false, some false, some false, some false, some false, some false, some false, some false, some false, some true, some false, some true])]
def exB (K : PySem.W.Frag) : Bool := decide (((tbK K).tabs.map (·.1)).Nodup) && (exL K).all id
abbrev RO : PySem.W.OpenRow := PySem.W.OpenLaw.row PySem.Challenge.rw_splituses_k07_texts
abbrev hk : PySem.W.Hook := He.hookX 4 faL fnL [] tfL exB
def ob (s : PySem.W.SharedT) : He.AlX := He.obsX 4 faL fnL [] tfL exB (HandSHeadRun.getT s)
theorem ob_eq (s : PySem.W.SharedT) : ob s = hk.obs s.abs := He.obsX_eq (HandSHeadRun.getT_eq s)
theorem run (w : World) : HandSHeadRun.RunEq RO (PySem.W.view RO.prog [40]) hk ob 6000 loose w := by
  intro os
  kernel_rfl
theorem funOf {K : PySem.W.Frag} {x : Str} {st : Stmt} {f : Addr} {fd : FuncData} (F : L2.FunD K x x (defArgs st) (defBody st) (defScope st) [] [] f fd) : L2.Fun K x x st f fd := by
  obtain ⟨oc, od, dV, kV, doc, pm, an, cdv, ct, osl, h1, h2, h3, h4, h5⟩ := F.ex
  rcases h4 with ⟨_, rfl⟩ | ⟨h, _⟩
  · exact ⟨⟨oc, od, kV, doc, pm, an, cdv, ct, osl, h1, h2, h3⟩, F.kp⟩
  · exact absurd rfl h
theorem fz {w : World} {K : PySem.W.Frag} {h h2 base : Heap} {mg : Str → Option Value} (X : K.In h) (G : h.Ns mainGlobals mg) (c : He.SaysX faL fnL [] tfL exB w h2 K) (hB : ∀ p ∈ tfL.map (He.cT K), LamX.TabB base mg p.1 p.2) : Fz K mg base := by
  have d := c.t.d
  obtain ⟨e1, e2⟩ := Bool.and_eq_true_iff.mp c.more
  have e3 : ∀ (j : Nat) (b : Bool), (exL K)[j]? = some b → b = true := fun j b hb => List.all_eq_true.mp e2 b (List.mem_of_getElem? hb)
  exact {
    n_ValueError := He.free_ok X G (d.fact 36 (f := .free "ValueError") rfl)
    n_abs := He.free_ok X G (d.fact 37 (f := .free "abs") rfl)
    n_all := He.free_ok X G (d.fact 38 (f := .free "all") rfl)
    n_int := He.free_ok X G (d.fact 39 (f := .free "int") rfl)
    n_isinstance := He.free_ok X G (d.fact 40 (f := .free "isinstance") rfl)
    n_len := He.free_ok X G (d.fact 41 (f := .free "len") rfl)
    n_max := He.free_ok X G (d.fact 42 (f := .free "max") rfl)
    n_min := He.free_ok X G (d.fact 43 (f := .free "min") rfl)
    n_range := He.free_ok X G (d.fact 44 (f := .free "range") rfl)
    n_str := He.free_ok X G (d.fact 45 (f := .free "str") rfl)
    n_zip := He.free_ok X G (d.fact 46 (f := .free "zip") rfl)
    c_MOST_SIGNS := He.int_ok X G (d.fact 47 (f := .int "MOST_SIGNS" (5)) rfl)
    m_is_good := He.glo_ok X G (d.fact 0 (f := .glo "is_good") rfl)
    k_is_good := by obtain ⟨fd, F⟩ := d.def_ 0 (d := ⟨("is_good", none), "is_good", "is_good", L2.defArgs (K07.topS 21), L2.defBody (K07.topS 21), L2.defScope (K07.topS 21), [], []⟩) rfl; exact F.kp
    d_is_good := by obtain ⟨fd, F⟩ := d.def_ 0 (d := ⟨("is_good", none), "is_good", "is_good", L2.defArgs (K07.topS 21), L2.defBody (K07.topS 21), L2.defScope (K07.topS 21), [], []⟩) rfl; exact ⟨fd, funOf F⟩
    m_need_signs := He.glo_ok X G (d.fact 1 (f := .glo "need_signs") rfl)
    k_need_signs := by obtain ⟨fd, F⟩ := d.def_ 1 (d := ⟨("need_signs", none), "need_signs", "need_signs", L2.defArgs (K07.topS 22), L2.defBody (K07.topS 22), L2.defScope (K07.topS 22), [], []⟩) rfl; exact F.kp
    d_need_signs := by obtain ⟨fd, F⟩ := d.def_ 1 (d := ⟨("need_signs", none), "need_signs", "need_signs", L2.defArgs (K07.topS 22), L2.defBody (K07.topS 22), L2.defScope (K07.topS 22), [], []⟩) rfl; exact ⟨fd, funOf F⟩
    m_text_of := He.glo_ok X G (d.fact 2 (f := .glo "text_of") rfl)
    k_text_of := by obtain ⟨fd, F⟩ := d.def_ 2 (d := ⟨("text_of", none), "text_of", "text_of", L2.defArgs (K07.topS 24), L2.defBody (K07.topS 24), L2.defScope (K07.topS 24), [], []⟩) rfl; exact F.kp
    d_text_of := by obtain ⟨fd, F⟩ := d.def_ 2 (d := ⟨("text_of", none), "text_of", "text_of", L2.defArgs (K07.topS 24), L2.defBody (K07.topS 24), L2.defScope (K07.topS 24), [], []⟩) rfl; exact ⟨fd, funOf F⟩
    m_read_in := He.glo_ok X G (d.fact 3 (f := .glo "read_in") rfl)
    k_read_in := by obtain ⟨fd, F⟩ := d.def_ 3 (d := ⟨("read_in", none), "read_in", "read_in", L2.defArgs (K07.topS 25), L2.defBody (K07.topS 25), L2.defScope (K07.topS 25), [], []⟩) rfl; exact F.kp
    d_read_in := by obtain ⟨fd, F⟩ := d.def_ 3 (d := ⟨("read_in", none), "read_in", "read_in", L2.defArgs (K07.topS 25), L2.defBody (K07.topS 25), L2.defScope (K07.topS 25), [], []⟩) rfl; exact ⟨fd, funOf F⟩
    m_signs_text := He.glo_ok X G (d.fact 4 (f := .glo "signs_text") rfl)
    k_signs_text := by obtain ⟨fd, F⟩ := d.def_ 4 (d := ⟨("signs_text", none), "signs_text", "signs_text", L2.defArgs (K07.topS 26), L2.defBody (K07.topS 26), L2.defScope (K07.topS 26), [], []⟩) rfl; exact F.kp
    d_signs_text := by obtain ⟨fd, F⟩ := d.def_ 4 (d := ⟨("signs_text", none), "signs_text", "signs_text", L2.defArgs (K07.topS 26), L2.defBody (K07.topS 26), L2.defScope (K07.topS 26), [], []⟩) rfl; exact ⟨fd, funOf F⟩
    m_read_signs := He.glo_ok X G (d.fact 5 (f := .glo "read_signs") rfl)
    k_read_signs := by obtain ⟨fd, F⟩ := d.def_ 5 (d := ⟨("read_signs", none), "read_signs", "read_signs", L2.defArgs (K07.topS 27), L2.defBody (K07.topS 27), L2.defScope (K07.topS 27), [], []⟩) rfl; exact F.kp
    d_read_signs := by obtain ⟨fd, F⟩ := d.def_ 5 (d := ⟨("read_signs", none), "read_signs", "read_signs", L2.defArgs (K07.topS 27), L2.defBody (K07.topS 27), L2.defScope (K07.topS 27), [], []⟩) rfl; exact ⟨fd, funOf F⟩
    m__law_vat := He.glo_ok X G (d.fact 6 (f := .glo "_law_vat") rfl)
    k__law_vat := by obtain ⟨fd, F⟩ := d.def_ 6 (d := ⟨("_law_vat", none), "_law_vat", "_law_vat", L2.defArgs (K07.topS 29), L2.defBody (K07.topS 29), L2.defScope (K07.topS 29), [], []⟩) rfl; exact F.kp
    d__law_vat := by obtain ⟨fd, F⟩ := d.def_ 6 (d := ⟨("_law_vat", none), "_law_vat", "_law_vat", L2.defArgs (K07.topS 29), L2.defBody (K07.topS 29), L2.defScope (K07.topS 29), [], []⟩) rfl; exact ⟨fd, funOf F⟩
    m__law_under := He.glo_ok X G (d.fact 7 (f := .glo "_law_under") rfl)
    k__law_under := by obtain ⟨fd, F⟩ := d.def_ 7 (d := ⟨("_law_under", none), "_law_under", "_law_under", L2.defArgs (K07.topS 30), L2.defBody (K07.topS 30), L2.defScope (K07.topS 30), [], []⟩) rfl; exact F.kp
    d__law_under := by obtain ⟨fd, F⟩ := d.def_ 7 (d := ⟨("_law_under", none), "_law_under", "_law_under", L2.defArgs (K07.topS 30), L2.defBody (K07.topS 30), L2.defScope (K07.topS 30), [], []⟩) rfl; exact ⟨fd, funOf F⟩
    m__law_some := He.glo_ok X G (d.fact 8 (f := .glo "_law_some") rfl)
    k__law_some := by obtain ⟨fd, F⟩ := d.def_ 8 (d := ⟨("_law_some", none), "_law_some", "_law_some", L2.defArgs (K07.topS 31), L2.defBody (K07.topS 31), L2.defScope (K07.topS 31), [], []⟩) rfl; exact F.kp
    d__law_some := by obtain ⟨fd, F⟩ := d.def_ 8 (d := ⟨("_law_some", none), "_law_some", "_law_some", L2.defArgs (K07.topS 31), L2.defBody (K07.topS 31), L2.defScope (K07.topS 31), [], []⟩) rfl; exact ⟨fd, funOf F⟩
    m__law_every := He.glo_ok X G (d.fact 9 (f := .glo "_law_every") rfl)
    k__law_every := by obtain ⟨fd, F⟩ := d.def_ 9 (d := ⟨("_law_every", none), "_law_every", "_law_every", L2.defArgs (K07.topS 32), L2.defBody (K07.topS 32), L2.defScope (K07.topS 32), [], []⟩) rfl; exact F.kp
    d__law_every := by obtain ⟨fd, F⟩ := d.def_ 9 (d := ⟨("_law_every", none), "_law_every", "_law_every", L2.defArgs (K07.topS 32), L2.defBody (K07.topS 32), L2.defScope (K07.topS 32), [], []⟩) rfl; exact ⟨fd, funOf F⟩
    m__law_signs := He.glo_ok X G (d.fact 10 (f := .glo "_law_signs") rfl)
    k__law_signs := by obtain ⟨fd, F⟩ := d.def_ 10 (d := ⟨("_law_signs", none), "_law_signs", "_law_signs", L2.defArgs (K07.topS 33), L2.defBody (K07.topS 33), L2.defScope (K07.topS 33), [], []⟩) rfl; exact F.kp
    d__law_signs := by obtain ⟨fd, F⟩ := d.def_ 10 (d := ⟨("_law_signs", none), "_law_signs", "_law_signs", L2.defArgs (K07.topS 33), L2.defBody (K07.topS 33), L2.defScope (K07.topS 33), [], []⟩) rfl; exact ⟨fd, funOf F⟩
    m__law_names := He.glo_ok X G (d.fact 11 (f := .glo "_law_names") rfl)
    k__law_names := by obtain ⟨fd, F⟩ := d.def_ 11 (d := ⟨("_law_names", none), "_law_names", "_law_names", L2.defArgs (K07.topS 34), L2.defBody (K07.topS 34), L2.defScope (K07.topS 34), [], []⟩) rfl; exact F.kp
    d__law_names := by obtain ⟨fd, F⟩ := d.def_ 11 (d := ⟨("_law_names", none), "_law_names", "_law_names", L2.defArgs (K07.topS 34), L2.defBody (K07.topS 34), L2.defScope (K07.topS 34), [], []⟩) rfl; exact ⟨fd, funOf F⟩
    m__law_error := He.glo_ok X G (d.fact 12 (f := .glo "_law_error") rfl)
    k__law_error := by obtain ⟨fd, F⟩ := d.def_ 12 (d := ⟨("_law_error", none), "_law_error", "_law_error", L2.defArgs (K07.topS 35), L2.defBody (K07.topS 35), L2.defScope (K07.topS 35), [], []⟩) rfl; exact F.kp
    d__law_error := by obtain ⟨fd, F⟩ := d.def_ 12 (d := ⟨("_law_error", none), "_law_error", "_law_error", L2.defArgs (K07.topS 35), L2.defBody (K07.topS 35), L2.defScope (K07.topS 35), [], []⟩) rfl; exact ⟨fd, funOf F⟩
    m__law_told := He.glo_ok X G (d.fact 13 (f := .glo "_law_told") rfl)
    k__law_told := by obtain ⟨fd, F⟩ := d.def_ 13 (d := ⟨("_law_told", none), "_law_told", "_law_told", L2.defArgs (K07.topS 36), L2.defBody (K07.topS 36), L2.defScope (K07.topS 36), [], []⟩) rfl; exact F.kp
    d__law_told := by obtain ⟨fd, F⟩ := d.def_ 13 (d := ⟨("_law_told", none), "_law_told", "_law_told", L2.defArgs (K07.topS 36), L2.defBody (K07.topS 36), L2.defScope (K07.topS 36), [], []⟩) rfl; exact ⟨fd, funOf F⟩
    m__law_all_refused := He.glo_ok X G (d.fact 14 (f := .glo "_law_all_refused") rfl)
    k__law_all_refused := by obtain ⟨fd, F⟩ := d.def_ 14 (d := ⟨("_law_all_refused", none), "_law_all_refused", "_law_all_refused", L2.defArgs (K07.topS 37), L2.defBody (K07.topS 37), L2.defScope (K07.topS 37), [], []⟩) rfl; exact F.kp
    d__law_all_refused := by obtain ⟨fd, F⟩ := d.def_ 14 (d := ⟨("_law_all_refused", none), "_law_all_refused", "_law_all_refused", L2.defArgs (K07.topS 37), L2.defBody (K07.topS 37), L2.defScope (K07.topS 37), [], []⟩) rfl; exact ⟨fd, funOf F⟩
    m__law_bad_signs := He.glo_ok X G (d.fact 15 (f := .glo "_law_bad_signs") rfl)
    k__law_bad_signs := by obtain ⟨fd, F⟩ := d.def_ 15 (d := ⟨("_law_bad_signs", none), "_law_bad_signs", "_law_bad_signs", L2.defArgs (K07.topS 38), L2.defBody (K07.topS 38), L2.defScope (K07.topS 38), [], []⟩) rfl; exact F.kp
    d__law_bad_signs := by obtain ⟨fd, F⟩ := d.def_ 15 (d := ⟨("_law_bad_signs", none), "_law_bad_signs", "_law_bad_signs", L2.defArgs (K07.topS 38), L2.defBody (K07.topS 38), L2.defScope (K07.topS 38), [], []⟩) rfl; exact ⟨fd, funOf F⟩
    m__law_text := He.glo_ok X G (d.fact 16 (f := .glo "_law_text") rfl)
    k__law_text := by obtain ⟨fd, F⟩ := d.def_ 16 (d := ⟨("_law_text", none), "_law_text", "_law_text", L2.defArgs (K07.topS 39), L2.defBody (K07.topS 39), L2.defScope (K07.topS 39), [], []⟩) rfl; exact F.kp
    d__law_text := by obtain ⟨fd, F⟩ := d.def_ 16 (d := ⟨("_law_text", none), "_law_text", "_law_text", L2.defArgs (K07.topS 39), L2.defBody (K07.topS 39), L2.defScope (K07.topS 39), [], []⟩) rfl; exact ⟨fd, funOf F⟩
    m_law := He.glo_ok X G (d.fact 17 (f := .glo "law") rfl)
    k_law := by obtain ⟨fd, F⟩ := d.def_ 17 (d := ⟨("law", none), "law", "law", L2.defArgs (K07.topS 40), L2.defBody (K07.topS 40), L2.defScope (K07.topS 40), [], []⟩) rfl; exact F.kp
    d_law := by obtain ⟨fd, F⟩ := d.def_ 17 (d := ⟨("law", none), "law", "law", L2.defArgs (K07.topS 40), L2.defBody (K07.topS 40), L2.defScope (K07.topS 40), [], []⟩) rfl; exact ⟨fd, funOf F⟩
    x_InvalidSigns := by have q := He.exc_ok (d.fact 48 (f := .exc "InvalidSigns") rfl); exact ⟨q.1, He.glo_ok X G (d.fact 20 (f := .glo "InvalidSigns") rfl), q.2.1, q.2.2⟩
    x_InvalidChance := by have q := He.exc_ok (d.fact 49 (f := .exc "InvalidChance") rfl); exact ⟨q.1, He.glo_ok X G (d.fact 21 (f := .glo "InvalidChance") rfl), q.2.1, q.2.2⟩
    x_InvalidNumber := by have q := He.exc_ok (d.fact 50 (f := .exc "InvalidNumber") rfl); exact ⟨q.1, He.glo_ok X G (d.fact 22 (f := .glo "InvalidNumber") rfl), q.2.1, q.2.2⟩
    x_InvalidCode := by have q := He.exc_ok (d.fact 51 (f := .exc "InvalidCode") rfl); exact ⟨q.1, He.glo_ok X G (d.fact 23 (f := .glo "InvalidCode") rfl), q.2.1, q.2.2⟩
    x_InvalidData := by have q := He.exc_ok (d.fact 52 (f := .exc "InvalidData") rfl); exact ⟨q.1, He.glo_ok X G (d.fact 24 (f := .glo "InvalidData") rfl), q.2.1, q.2.2⟩
    x_InvalidSeen := by have q := He.exc_ok (d.fact 53 (f := .exc "InvalidSeen") rfl); exact ⟨q.1, He.glo_ok X G (d.fact 25 (f := .glo "InvalidSeen") rfl), q.2.1, q.2.2⟩
    x_InvalidLost := by have q := He.exc_ok (d.fact 54 (f := .exc "InvalidLost") rfl); exact ⟨q.1, He.glo_ok X G (d.fact 26 (f := .glo "InvalidLost") rfl), q.2.1, q.2.2⟩
    x_InvalidTable := by have q := He.exc_ok (d.fact 55 (f := .exc "InvalidTable") rfl); exact ⟨q.1, He.glo_ok X G (d.fact 27 (f := .glo "InvalidTable") rfl), q.2.1, q.2.2⟩
    x_InvalidFacts := by have q := He.exc_ok (d.fact 56 (f := .exc "InvalidFacts") rfl); exact ⟨q.1, He.glo_ok X G (d.fact 28 (f := .glo "InvalidFacts") rfl), q.2.1, q.2.2⟩
    x_InvalidShare := by have q := He.exc_ok (d.fact 57 (f := .exc "InvalidShare") rfl); exact ⟨q.1, He.glo_ok X G (d.fact 29 (f := .glo "InvalidShare") rfl), q.2.1, q.2.2⟩
    x_InvalidPlace := by have q := He.exc_ok (d.fact 58 (f := .exc "InvalidPlace") rfl); exact ⟨q.1, He.glo_ok X G (d.fact 30 (f := .glo "InvalidPlace") rfl), q.2.1, q.2.2⟩
    x_InvalidSign := by have q := He.exc_ok (d.fact 59 (f := .exc "InvalidSign") rfl); exact ⟨q.1, He.glo_ok X G (d.fact 31 (f := .glo "InvalidSign") rfl), q.2.1, q.2.2⟩
    x_InvalidText := by have q := He.exc_ok (d.fact 60 (f := .exc "InvalidText") rfl); exact ⟨q.1, He.glo_ok X G (d.fact 32 (f := .glo "InvalidText") rfl), q.2.1, q.2.2⟩
    x_Misfit := by have q := He.exc_ok (d.fact 61 (f := .exc "Misfit") rfl); exact ⟨q.1, He.glo_ok X G (d.fact 33 (f := .glo "Misfit") rfl), q.2.1, q.2.2⟩
    x_Unlike := by have q := He.exc_ok (d.fact 62 (f := .exc "Unlike") rfl); exact ⟨q.1, He.glo_ok X G (d.fact 34 (f := .glo "Unlike") rfl), q.2.1, q.2.2⟩
    x_NothingToUndo := by have q := He.exc_ok (d.fact 63 (f := .exc "NothingToUndo") rfl); exact ⟨q.1, He.glo_ok X G (d.fact 35 (f := .glo "NothingToUndo") rfl), q.2.1, q.2.2⟩
    m_SplitError := He.glo_ok X G (d.fact 18 (f := .glo "SplitError") rfl)
    m_InvalidSigns := He.glo_ok X G (d.fact 20 (f := .glo "InvalidSigns") rfl)
    m_InvalidChance := He.glo_ok X G (d.fact 21 (f := .glo "InvalidChance") rfl)
    m_InvalidNumber := He.glo_ok X G (d.fact 22 (f := .glo "InvalidNumber") rfl)
    m_InvalidCode := He.glo_ok X G (d.fact 23 (f := .glo "InvalidCode") rfl)
    m_InvalidData := He.glo_ok X G (d.fact 24 (f := .glo "InvalidData") rfl)
    m_InvalidSeen := He.glo_ok X G (d.fact 25 (f := .glo "InvalidSeen") rfl)
    m_InvalidLost := He.glo_ok X G (d.fact 26 (f := .glo "InvalidLost") rfl)
    m_InvalidTable := He.glo_ok X G (d.fact 27 (f := .glo "InvalidTable") rfl)
    m_InvalidFacts := He.glo_ok X G (d.fact 28 (f := .glo "InvalidFacts") rfl)
    m_InvalidShare := He.glo_ok X G (d.fact 29 (f := .glo "InvalidShare") rfl)
    m_InvalidPlace := He.glo_ok X G (d.fact 30 (f := .glo "InvalidPlace") rfl)
    m_InvalidSign := He.glo_ok X G (d.fact 31 (f := .glo "InvalidSign") rfl)
    m_InvalidText := He.glo_ok X G (d.fact 32 (f := .glo "InvalidText") rfl)
    m_Misfit := He.glo_ok X G (d.fact 33 (f := .glo "Misfit") rfl)
    m_Unlike := He.glo_ok X G (d.fact 34 (f := .glo "Unlike") rfl)
    m_NothingToUndo := He.glo_ok X G (d.fact 35 (f := .glo "NothingToUndo") rfl)
    m_TooMany := He.glo_ok X G (d.fact 19 (f := .glo "TooMany") rfl)
    exm := fun j hj => match j, hj with
      | 0, _ => He.exm_ok (d.fact 64 (f := .exm "InvalidSigns" "SplitError" true) rfl)
      | 1, _ => He.exm_ok (d.fact 65 (f := .exm "InvalidChance" "SplitError" true) rfl)
      | 2, _ => He.exm_ok (d.fact 66 (f := .exm "InvalidNumber" "SplitError" true) rfl)
      | 3, _ => He.exm_ok (d.fact 67 (f := .exm "InvalidCode" "SplitError" true) rfl)
      | 4, _ => He.exm_ok (d.fact 68 (f := .exm "InvalidData" "SplitError" true) rfl)
      | 5, _ => He.exm_ok (d.fact 69 (f := .exm "InvalidSeen" "SplitError" true) rfl)
      | 6, _ => He.exm_ok (d.fact 70 (f := .exm "InvalidLost" "SplitError" true) rfl)
      | 7, _ => He.exm_ok (d.fact 71 (f := .exm "InvalidTable" "SplitError" true) rfl)
      | 8, _ => He.exm_ok (d.fact 72 (f := .exm "InvalidFacts" "SplitError" true) rfl)
      | 9, _ => He.exm_ok (d.fact 73 (f := .exm "InvalidShare" "SplitError" true) rfl)
      | 10, _ => He.exm_ok (d.fact 74 (f := .exm "InvalidPlace" "SplitError" true) rfl)
      | 11, _ => He.exm_ok (d.fact 75 (f := .exm "InvalidSign" "SplitError" true) rfl)
      | 12, _ => He.exm_ok (d.fact 76 (f := .exm "InvalidText" "SplitError" true) rfl)
      | 13, _ => He.exm_ok (d.fact 77 (f := .exm "Misfit" "SplitError" true) rfl)
      | 14, _ => He.exm_ok (d.fact 78 (f := .exm "Unlike" "SplitError" true) rfl)
      | 15, _ => He.exm_ok (d.fact 79 (f := .exm "NothingToUndo" "SplitError" true) rfl)
      | n + 16, hj => by omega
    q_InvalidSigns := by have q := e3 0 _ rfl; obtain ⟨q1, q2⟩ := Bool.and_eq_true_iff.mp q; exact ⟨excC_of q1, of_decide_eq_true q2⟩
    q_InvalidChance := by have q := e3 1 _ rfl; obtain ⟨q1, q2⟩ := Bool.and_eq_true_iff.mp q; exact ⟨excC_of q1, of_decide_eq_true q2⟩
    q_InvalidNumber := by have q := e3 2 _ rfl; obtain ⟨q1, q2⟩ := Bool.and_eq_true_iff.mp q; exact ⟨excC_of q1, of_decide_eq_true q2⟩
    q_InvalidCode := by have q := e3 3 _ rfl; obtain ⟨q1, q2⟩ := Bool.and_eq_true_iff.mp q; exact ⟨excC_of q1, of_decide_eq_true q2⟩
    q_InvalidData := by have q := e3 4 _ rfl; obtain ⟨q1, q2⟩ := Bool.and_eq_true_iff.mp q; exact ⟨excC_of q1, of_decide_eq_true q2⟩
    q_InvalidSeen := by have q := e3 5 _ rfl; obtain ⟨q1, q2⟩ := Bool.and_eq_true_iff.mp q; exact ⟨excC_of q1, of_decide_eq_true q2⟩
    q_InvalidLost := by have q := e3 6 _ rfl; obtain ⟨q1, q2⟩ := Bool.and_eq_true_iff.mp q; exact ⟨excC_of q1, of_decide_eq_true q2⟩
    q_InvalidTable := by have q := e3 7 _ rfl; obtain ⟨q1, q2⟩ := Bool.and_eq_true_iff.mp q; exact ⟨excC_of q1, of_decide_eq_true q2⟩
    q_InvalidFacts := by have q := e3 8 _ rfl; obtain ⟨q1, q2⟩ := Bool.and_eq_true_iff.mp q; exact ⟨excC_of q1, of_decide_eq_true q2⟩
    q_InvalidShare := by have q := e3 9 _ rfl; obtain ⟨q1, q2⟩ := Bool.and_eq_true_iff.mp q; exact ⟨excC_of q1, of_decide_eq_true q2⟩
    q_InvalidPlace := by have q := e3 10 _ rfl; obtain ⟨q1, q2⟩ := Bool.and_eq_true_iff.mp q; exact ⟨excC_of q1, of_decide_eq_true q2⟩
    q_InvalidSign := by have q := e3 11 _ rfl; obtain ⟨q1, q2⟩ := Bool.and_eq_true_iff.mp q; exact ⟨excC_of q1, of_decide_eq_true q2⟩
    q_InvalidText := by have q := e3 12 _ rfl; obtain ⟨q1, q2⟩ := Bool.and_eq_true_iff.mp q; exact ⟨excC_of q1, of_decide_eq_true q2⟩
    q_Misfit := by have q := e3 13 _ rfl; obtain ⟨q1, q2⟩ := Bool.and_eq_true_iff.mp q; exact ⟨excC_of q1, of_decide_eq_true q2⟩
    q_Unlike := by have q := e3 14 _ rfl; obtain ⟨q1, q2⟩ := Bool.and_eq_true_iff.mp q; exact ⟨excC_of q1, of_decide_eq_true q2⟩
    q_NothingToUndo := by have q := e3 15 _ rfl; obtain ⟨q1, q2⟩ := Bool.and_eq_true_iff.mp q; exact ⟨excC_of q1, of_decide_eq_true q2⟩
    t__law_all_refused := hB (He.cT K ("_law_all_refused", none)) (List.mem_of_getElem? (i := 0) rfl)
    t_law := hB (He.cT K ("law", none)) (List.mem_of_getElem? (i := 1) rfl)
    tnd := of_decide_eq_true e1 }
/-- what the law is to do with the script -/
def G0 (K : PySem.W.Frag) : Gx := ⟨tbK K, none, [], fun _ => none, []⟩
theorem law_sp {K : PySem.W.Frag} {H : Hp} {a : Addr} {ns : List Int} (hT : ∀ p ∈ tfL.map (He.cT K), H p.2 = some (.tbl #[])) (hS : SqL K H a (ns.map V.int)) (hl : ns.length ≤ 63)
    (ok : ∀ d, d = D.scr (ns.map D.int) ∨ d = D.lst (ns.map D.int) → ∃ st', m_law [d] [] = .ok (.bl true) st') : spM K (G0 K) 1 m_law [.ref a] H (fun v _ => v = .bl true) fun _ _ _ => False := by
  have rl : ∀ ns : List Int, RpL K (G0 K) [] H (ns.map D.int) (ns.map V.int) := fun ns => by
    induction ns with
    | nil => exact .nil
    | cons n r ih => exact .cons .int ih
  have htabs : LamX.Tabs (tbK K).tabs H := fun p hp => by
    simp only [tbK, List.mem_cons, List.not_mem_nil, or_false] at hp
    rcases hp with rfl | rfl
    · exact LamX.TabS.nil (hT (He.cT K ("_law_all_refused", none)) (List.mem_of_getElem? (i := 0) rfl))
    · exact LamX.TabS.nil (hT (He.cT K ("law", none)) (List.mem_of_getElem? (i := 1) rfl))
  have so : StOk K (G0 K) [] H [] := ⟨rfl, List.nodup_nil, fun n c a h => by simp at h, htabs, Ext.start, (fun a h => nomatch h), (fun a h => nomatch h)⟩
  have fin : ∀ d, Rp K (G0 K) [] H d (.ref a) → (∃ st', m_law [d] [] = .ok (.bl true) st') → spM K (G0 K) 1 m_law [.ref a] H (fun v _ => v = .bl true) fun _ _ _ => False := fun d r ⟨st', e⟩ => by
    refine ⟨[], [d], [], rfl, so, .cons r .nil, ?_⟩
    rw [e]
    intro φ' H' x s v rv
    cases rv
    rfl
  rcases hS with (h | ⟨o, h⟩) | h
  · exact fin _ (.lst h (by simp) (by simp [G0]) (rl ns)) (ok _ (.inr rfl))
  · exact fin _ (.scr (.inl ⟨o, h⟩) (rl ns)) (ok _ (.inl rfl))
  · exact fin _ (.scr (.inr fun H' => .inr h) (rl ns)) (ok _ (.inl rfl))
end K07
open PySem PySem.W PySem.Calls PyProof.Rows
theorem PySem.Challenge.cw_splituses_k07_texts_holds : PySem.Challenge.rw_splituses_k07_texts.Holds := by
  w_on; o_law
  refine HandSHeadRun.head_any (r := OpenLaw.row PySem.Challenge.rw_splituses_k07_texts) (q := view (OpenLaw.row PySem.Challenge.rw_splituses_k07_texts).prog [40]) (H := K07.hk) (ob := K07.ob) (M := 6000) (loose := K07.loose) (d := HandSHeadRun.topDef (OpenLaw.row PySem.Challenge.rw_splituses_k07_texts).prog 40) (kwd := []) K07.ob_eq
    (by kernel_rfl) (fun s => by kernel_rfl) K07.run (by kernel_rfl) (by kernel_rfl) (by kernel_rfl) (by rfl) (by first | assumption | decide +kernel) (by decide +kernel) ⟨rfl, rfl, rfl, rfl, rfl, by decide +kernel⟩ ?hw ?hc
  case hw => w_witness2
  case hc =>
    refine LamX.walk_ofTsE (l := PySem.Challenge.rw_splituses_k07_texts) (n := 63) (k := 16) (x := "script") (CX := fun w => L2N.CX (PySem.Challenge.rw_splituses_k07_texts).prog w) rfl (by decide) (by kernel_rfl) ⟨rfl, by decide, by decide⟩ ?F ?C
    case C =>
      intro w H s e s' z
      obtain ⟨_, _, _, _, _, _, _, _, _, _, _, _, z⟩ := z
      exact z
    case F =>
      intro w mg fa h Y G hmg0
      obtain ⟨K, KX, c⟩ := Y
      have hmg : mg ("law" : PySem.Str) = some (.ref fa) := by
        have e : (HandSHeadRun.topDef (OpenLaw.row PySem.Challenge.rw_splituses_k07_texts).prog 40).name = ("law" : PySem.Str) := by kernel_rfl
        rw [← e]
        exact hmg0
      have hga := He.glo_ok KX G (c.t.d.fact 17 (f := .glo "law") rfl)
      have efa : fa = He.ga K "law" := by
        rw [hga] at hmg
        cases hmg
        rfl
      obtain ⟨fd, F⟩ := c.t.d.def_ 17 (d := ⟨("law", none), "law", "law", L2.defArgs (K07.topS 40), L2.defBody (K07.topS 40), L2.defScope (K07.topS 40), [], []⟩) rfl
      have F2 : L2.Fun K "law" "law" (K07.topS 40) (He.ga K "law") fd := K07.funOf F
      have bn := L2.FunD.bindsA (ps := ["script"]) F fun _ _ _ _ _ _ us hl => match us, hl with | [_], _ => rfl
      refine ⟨K, KX, fd, K07.tfL.map (He.cT K), DL.spM K (K07.G0 K) 1 K07.m_law, fun p hp => ?_, fun p hp => ?_, fun p hp => ?_, fun s u => bn s [u] rfl, fun H a ns hl _ hT hS => K07.law_sp hT hS hl fun d hd => K07.lawT0 K07.tx_all ns d hl hd, fun base kb nb hB => ?_⟩
      · obtain ⟨q, hq, e⟩ := List.mem_map.mp hp
        rw [← e]
        exact c.empty q hq
      · obtain ⟨q, hq, e⟩ := List.mem_map.mp hp
        rw [← e]
        exact c.out q hq
      · obtain ⟨q, hq, e⟩ := List.mem_map.mp hp
        rw [← e]
        exact PySem.W.codeHd_of_K KX (c.hd q hq)
      · rw [efa]
        exact K07.okF_law (K07.fz kb nb c hB) rfl F2

